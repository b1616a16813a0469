import PyProof.Rows.All
import Wide.All
import OpenK.AllK
import Wide.FinOn
import HandS.ForMost
import HandS.ForExc
import HandS.IsInst
import HandS.Deep
import HandS.Style
import HandS.Small
import HandS.Flow
import HandS.Wide
import HandS.Walk
import HandS.Defaults
import HandS.MakeKw
import HandS.ExcOwn
import HandS.ExcIs
import HandS.ExcInit
import HandS.ExcField
import HandS.TryOnly
import HandS.ClsMeth
import KE.KExcIs
import PySem.Challenge.RW_callbinds_k12_parameters
set_option Elab.async false
set_option maxRecDepth 100000
set_option linter.all false
set_option maxHeartbeats 4000000
/-! Den1.lean -/
namespace Dn
open PySem PySem.Spec PyProof.Rows L2

/-- data without addresses -/
inductive D where
  | non | bl (b : Bool) | int (i : Int) | str (s : Str) | ty (n : String) | cl (c : Nat) | scr (ns : List Int)
  | lst (ds : List D) | tup (ds : List D) | obj (c : Nat) (ds : List D) | dic (ks : List Key) (ds : List D)

def sOk (s : Str) : Bool := decide (s.length ≤ sizeLine) && PyData.strOk s
/-- the classes' addresses and their instances' attributes in order -/
structure Gm where
  K : PySem.W.Frag
  cls : Nat → Addr
  flds : Nat → List Str
  /-- in an except suite: the caught exception, its class, its dict -/
  xa : Option (Addr × Value × Option Addr) := none

mutual
/-- v stands for d over F -/
def Rep (Γ : Gm) (F : Hp) : D → V → Prop
  | .non, v => v = .non
  | .bl b, v => v = .bl b
  | .int i, v => v = .int i
  | .str s, v => v = .str s ∧ sOk s = true
  | .ty n, v => v = .ty n
  | .cl c, v => v = .ref (Γ.cls c)
  | .scr ns, v => ∃ a, v = .ref a ∧ ns.length ≤ sizeLine ∧ SqL Γ.K F a (ns.map V.int) ∧ ((∃ xs, F a = some (.lst xs)) ∨ (∃ o xs, F a = some (.frz o (.lst xs))) ∨ ∃ o, Γ.K.lookup a = some o ∧ o.cls = .type "list")
  | .lst ds, v => ∃ a vs, v = .ref a ∧ F a = some (.lst vs) ∧ ds.length ≤ sizeLine ∧ Reps Γ F ds vs
  | .tup ds, v => ∃ a vs, v = .ref a ∧ SqT Γ.K F a vs ∧ ds.length ≤ sizeLine ∧ Reps Γ F ds vs
  | .obj c ds, v => ∃ a dx fs, v = .ref a ∧ F a = some (.ins (Γ.cls c) dx fs) ∧ fs.map (·.1) = Γ.flds c ∧ Reps Γ F ds (fs.map (·.2))
  | .dic ks ds, v => ∃ a kvs, v = .ref a ∧ F a = some (.dK kvs) ∧ kvs.map (·.1) = ks ∧ kvs.length ≤ sizeLine ∧ Reps Γ F ds (kvs.map (·.2))
def Reps (Γ : Gm) (F : Hp) : List D → List V → Prop
  | [], vs => vs = []
  | d :: ds, vs => ∃ v r, vs = v :: r ∧ Rep Γ F d v ∧ Reps Γ F ds r
end

theorem Reps.length {Γ : Gm} {F : Hp} : ∀ {ds : List D} {vs : List V}, Reps Γ F ds vs → vs.length = ds.length
  | [], vs, h => by rw [Reps] at h; subst h; rfl
  | d :: ds, vs, h => by
    rw [Reps] at h
    obtain ⟨v, r, rfl, _, h⟩ := h
    simp [Reps.length h]
theorem Reps.nil {Γ : Gm} {F : Hp} : Reps Γ F [] [] := by rw [Reps]
theorem Reps.cons {Γ : Gm} {F : Hp} {d : D} {v : V} {ds : List D} {vs : List V} (h : Rep Γ F d v) (t : Reps Γ F ds vs) : Reps Γ F (d :: ds) (v :: vs) := by
  rw [Reps]; exact ⟨v, vs, rfl, h, t⟩
theorem Reps.nil_inv {Γ : Gm} {F : Hp} {vs : List V} (h : Reps Γ F [] vs) : vs = [] := by rw [Reps] at h; exact h
theorem Reps.cons_inv {Γ : Gm} {F : Hp} {d : D} {ds : List D} {vs : List V} (h : Reps Γ F (d :: ds) vs) : ∃ v r, vs = v :: r ∧ Rep Γ F d v ∧ Reps Γ F ds r := by rw [Reps] at h; exact h
theorem Reps.append {Γ : Gm} {F : Hp} : ∀ {ds es : List D} {vs ws : List V}, Reps Γ F ds vs → Reps Γ F es ws → Reps Γ F (ds ++ es) (vs ++ ws)
  | [], es, vs, ws, h, k => by rw [h.nil_inv]; exact k
  | d :: ds, es, vs, ws, h, k => by
    obtain ⟨v, r, rfl, h1, h2⟩ := h.cons_inv
    exact .cons h1 (Reps.append h2 k)
theorem Reps.get {Γ : Gm} {F : Hp} : ∀ {ds : List D} {vs : List V} {i : Nat} {d : D}, Reps Γ F ds vs → ds[i]? = some d → ∃ v, vs[i]? = some v ∧ Rep Γ F d v
  | [], _, _, _, _, e => by simp at e
  | _ :: _, _, 0, _, h, e => by
    obtain ⟨v, r, rfl, h1, h2⟩ := h.cons_inv
    simp at e; subst e; exact ⟨v, rfl, h1⟩
  | _ :: ds, _, i + 1, d, h, e => by
    obtain ⟨v, r, rfl, h1, h2⟩ := h.cons_inv
    obtain ⟨u, a, b⟩ := Reps.get (i := i) h2 (by simpa using e)
    exact ⟨u, by simpa using a, b⟩
theorem Reps.getV {Γ : Gm} {F : Hp} {ds : List D} {vs : List V} {i : Nat} {v : V} (h : Reps Γ F ds vs) (e : vs[i]? = some v) : ∃ d, ds[i]? = some d ∧ Rep Γ F d v := by
  have hl : i < ds.length := by rw [← h.length]; exact (List.getElem?_eq_some_iff.mp e).1
  obtain ⟨u, a, b⟩ := h.get (i := i) (d := ds[i]) (by simp [hl])
  rw [e] at a; cases a
  exact ⟨_, by simp [hl], b⟩
theorem Reps.take {Γ : Gm} {F : Hp} : ∀ {ds : List D} {vs : List V} (n : Nat), Reps Γ F ds vs → Reps Γ F (ds.take n) (vs.take n)
  | _, _, 0, _ => by simp; exact .nil
  | [], _, n + 1, h => by rw [h.nil_inv]; simp; exact .nil
  | d :: ds, _, n + 1, h => by
    obtain ⟨v, r, rfl, h1, h2⟩ := h.cons_inv
    exact .cons h1 (Reps.take n h2)
theorem Reps.drop {Γ : Gm} {F : Hp} : ∀ {ds : List D} {vs : List V} (n : Nat), Reps Γ F ds vs → Reps Γ F (ds.drop n) (vs.drop n)
  | _, _, 0, h => by simpa using h
  | [], _, n + 1, h => by rw [h.nil_inv]; simp; exact .nil
  | d :: ds, _, n + 1, h => by
    obtain ⟨v, r, rfl, h1, h2⟩ := h.cons_inv
    simpa using Reps.drop n h2
theorem Reps.reverse {Γ : Gm} {F : Hp} : ∀ {ds : List D} {vs : List V}, Reps Γ F ds vs → Reps Γ F ds.reverse vs.reverse
  | [], _, h => by rw [h.nil_inv]; exact .nil
  | d :: ds, _, h => by
    obtain ⟨v, r, rfl, h1, h2⟩ := h.cons_inv
    rw [List.reverse_cons, List.reverse_cons]
    exact (Reps.reverse h2).append (.cons h1 .nil)
theorem Reps.dropLast {Γ : Gm} {F : Hp} {ds : List D} {vs : List V} (h : Reps Γ F ds vs) : Reps Γ F ds.dropLast vs.dropLast := by
  rw [List.dropLast_eq_take, List.dropLast_eq_take, h.length]; exact h.take _
theorem Reps.set {Γ : Gm} {F : Hp} {d : D} {v : V} (k : Rep Γ F d v) : ∀ {ds : List D} {vs : List V} (i : Nat), Reps Γ F ds vs → Reps Γ F (ds.set i d) (vs.set i v)
  | [], _, _, h => by rw [h.nil_inv]; exact .nil
  | e :: ds, _, 0, h => by
    obtain ⟨u, r, rfl, h1, h2⟩ := h.cons_inv
    exact .cons k h2
  | e :: ds, _, i + 1, h => by
    obtain ⟨u, r, rfl, h1, h2⟩ := h.cons_inv
    exact .cons h1 (Reps.set k i h2)

theorem Same.sqt {K : PySem.W.Frag} {H H' : Hp} {a : Addr} {xs : List V} (e : Same H H') (h : SqT K H a xs) : SqT K H' a xs := by
  rcases h with (h | ⟨o, h⟩) | h
  · exact .inl (.inl (e _ _ h))
  · exact .inl (.inr ⟨o, e _ _ h⟩)
  · exact .inr h
mutual
theorem Rep.mono {Γ : Gm} {F F' : Hp} (s : Same F F') : ∀ (d : D) (v : V), Rep Γ F d v → Rep Γ F' d v
  | .non, _, h => by rw [Rep] at h ⊢; exact h
  | .bl _, _, h => by rw [Rep] at h ⊢; exact h
  | .int _, _, h => by rw [Rep] at h ⊢; exact h
  | .str _, _, h => by rw [Rep] at h ⊢; exact h
  | .ty _, _, h => by rw [Rep] at h ⊢; exact h
  | .cl _, _, h => by rw [Rep] at h ⊢; exact h
  | .scr _, _, h => by
    rw [Rep] at h ⊢
    obtain ⟨a, e, l, q, z⟩ := h
    refine ⟨a, e, l, s.seq q, ?_⟩
    rcases z with ⟨xs, z⟩ | ⟨o, xs, z⟩ | z
    · exact .inl ⟨xs, s _ _ z⟩
    · exact .inr (.inl ⟨o, xs, s _ _ z⟩)
    · exact .inr (.inr z)
  | .lst ds, _, h => by
    rw [Rep] at h ⊢
    obtain ⟨a, vs, e, q, l, r⟩ := h
    exact ⟨a, vs, e, s _ _ q, l, Reps.mono s ds vs r⟩
  | .tup ds, _, h => by
    rw [Rep] at h ⊢
    obtain ⟨a, vs, e, q, l, r⟩ := h
    exact ⟨a, vs, e, Same.sqt s q, l, Reps.mono s ds vs r⟩
  | .obj c ds, _, h => by
    rw [Rep] at h ⊢
    obtain ⟨a, dx, fs, e, q, l, r⟩ := h
    exact ⟨a, dx, fs, e, s _ _ q, l, Reps.mono s ds _ r⟩
  | .dic ks ds, _, h => by
    rw [Rep] at h ⊢
    obtain ⟨a, kvs, e, q, l, z, r⟩ := h
    exact ⟨a, kvs, e, s _ _ q, l, z, Reps.mono s ds _ r⟩
theorem Reps.mono {Γ : Gm} {F F' : Hp} (s : Same F F') : ∀ (ds : List D) (vs : List V), Reps Γ F ds vs → Reps Γ F' ds vs
  | [], _, h => by rw [Reps] at h ⊢; exact h
  | d :: ds, _, h => by
    rw [Reps] at h ⊢
    obtain ⟨v, r, e, h1, h2⟩ := h
    exact ⟨v, r, e, Rep.mono s d v h1, Reps.mono s ds r h2⟩
end

/-- the heap at the entry, and what of it is data -/
structure Gd where
  B : Hp
  F0 : Hp
  me : Option Addr := none
/-- an exception's dict -/
def XD (Γ : Gm) (F : Hp) (c : Nat) : Option (List D) → Option Addr → Prop
  | none, d => d = none
  | some ds, d => ∃ dd vs, d = some dd ∧ F dd = some (.xd vs) ∧ vs.map (·.1) = Γ.flds c ∧ Reps Γ F ds (vs.map (·.2))
theorem XD.mono {Γ : Gm} {F F' : Hp} {c : Nat} (s : Same F F') : ∀ {fs : Option (List D)} {d : Option Addr}, XD Γ F c fs d → XD Γ F' c fs d
  | none, _, h => h
  | some ds, _, ⟨dd, vs, e, q, l, r⟩ => ⟨dd, vs, e, s _ _ q, l, r.mono s⟩

inductive Slot where
  | un | val (d : D) | own (d : D) | exn (c : Nat) (fs : Option (List D))
abbrev Env := List Slot

/-- an object that H holds at a, its parts over F -/
def Top (Γ : Gm) (F H : Hp) (a : Addr) : D → Prop
  | .lst ds => ∃ vs, H a = some (.lst vs) ∧ ds.length ≤ sizeLine ∧ Reps Γ F ds vs
  | .obj c ds => ∃ dx fs, H a = some (.ins (Γ.cls c) dx fs) ∧ fs.map (·.1) = (Γ.flds c).take ds.length ∧ Reps Γ F ds (fs.map (·.2))
  | .dic ks ds => ∃ kvs, H a = some (.dK kvs) ∧ kvs.map (·.1) = ks ∧ kvs.length ≤ sizeLine ∧ Reps Γ F ds (kvs.map (·.2))
  | _ => False
def SRep (Γ : Gm) (F H B : Hp) (x : Option V) : Slot → Prop
  | .un => True
  | .val d => ∃ v, x = some v ∧ Rep Γ F d v
  | .own d => ∃ a, x = some (.ref a) ∧ F a = none ∧ B a = none ∧ Top Γ F H a d
  | .exn c fs => ∃ a d, x = some (.ref a) ∧ Γ.xa = some (a, .ref (Γ.cls c), d) ∧ XD Γ F c fs d

structure ER (Γ : Gm) (G : Gd) (env : Env) (σ : L2.St) (F H : Hp) : Prop where
  len : σ.length = env.length
  fh : Same F H
  bh : Same G.B H
  f0 : Same G.F0 F
  fr : ∀ p o, F p = some o → G.F0 p = some o ∨ G.B p = none
  sl : ∀ (i : Nat) (s : Slot), env[i]? = some s → ∃ x, σ[i]? = some x ∧ SRep Γ F H G.B x s
  ds : ∀ (i j : Nat) a di dj, env[i]? = some (.own di) → env[j]? = some (.own dj) → σ[i]? = some (some (.ref a)) → σ[j]? = some (some (.ref a)) → i = j
  me : ∀ x d, G.me = some x → env[0]? = some (.own d) → σ[0]? = some (some (.ref x))

theorem Top.mono {Γ : Gm} {F H F' H' : Hp} {a : Addr} (s : Same F F') (t : ∀ o, H a = some o → H' a = some o) : ∀ {d : D}, Top Γ F H a d → Top Γ F' H' a d
  | .lst ds, ⟨vs, e, l, r⟩ => ⟨vs, t _ e, l, r.mono s⟩
  | .obj c ds, ⟨dx, fs, e, l, r⟩ => ⟨dx, fs, t _ e, l, r.mono s⟩
  | .dic ks ds, ⟨kvs, e, l, z, r⟩ => ⟨kvs, t _ e, l, z, r.mono s⟩
theorem Top.some {Γ : Gm} {F H : Hp} {a : Addr} : ∀ {d : D}, Top Γ F H a d → ∃ o, H a = some o
  | .lst ds, ⟨vs, e, l, r⟩ => ⟨_, e⟩
  | .obj c ds, ⟨dx, fs, e, l, r⟩ => ⟨_, e⟩
  | .dic ks ds, ⟨kvs, e, l, z, r⟩ => ⟨_, e⟩

/-- growth: data grows on new ground, all tracked stays -/
structure Gr (F H F' H' : Hp) : Prop where
  ff : Same F F'
  fh : Same F' H'
  hh : Same H H'
  new : ∀ p o, F' p = some o → F p = some o ∨ H p = none
theorem Gr.refl {F H : Hp} (h : Same F H) : Gr F H F H := ⟨Same.refl _, h, Same.refl _, fun _ _ e => .inl e⟩
theorem Gr.trans {F H F1 H1 F2 H2 : Hp} (a : Gr F H F1 H1) (b : Gr F1 H1 F2 H2) : Gr F H F2 H2 := ⟨a.ff.trans b.ff, b.fh, a.hh.trans b.hh, fun p o q => by
  rcases b.new p o q with z | z
  · exact a.new p o z
  · refine .inr ?_
    cases e : H p with
    | none => rfl
    | some u => have := a.hh p u e; rw [z] at this; cases this⟩
theorem SRep.gr {Γ : Gm} {F H F' H' B : Hp} {x : Option V} (g : Gr F H F' H') : ∀ {s : Slot}, SRep Γ F H B x s → SRep Γ F' H' B x s
  | .un, _ => trivial
  | .val d, ⟨v, e, r⟩ => ⟨v, e, r.mono g.ff⟩
  | .exn c fs, ⟨a, d, e, e2, r⟩ => ⟨a, d, e, e2, r.mono g.ff⟩
  | .own d, ⟨a, e, f, b, t⟩ => by
    refine ⟨a, e, ?_, b, t.mono g.ff fun o => g.hh a o⟩
    cases q : F' a with
    | none => rfl
    | some o =>
      rcases g.new a o q with z | z
      · rw [f] at z; cases z
      · obtain ⟨o', z'⟩ := t.some; rw [z] at z'; cases z'
theorem ER.gr {Γ : Gm} {G : Gd} {env : Env} {σ : L2.St} {F H F' H' : Hp} (e : ER Γ G env σ F H) (g : Gr F H F' H') : ER Γ G env σ F' H' where
  len := e.len
  fh := g.fh
  bh := e.bh.trans g.hh
  f0 := e.f0.trans g.ff
  fr := fun p o q => by
    rcases g.new p o q with z | z
    · exact e.fr p o z
    · refine .inr ?_
      cases b : G.B p with
      | none => rfl
      | some u => have := e.bh p u b; rw [z] at this; cases this
  sl := fun i s q => let ⟨x, a, b⟩ := e.sl i s q; ⟨x, a, b.gr g⟩
  ds := e.ds
  me := e.me
end Dn

/-! Den2.lean -/
namespace Dn
open PySem PySem.Spec PyProof.Rows L2

/-- what comes of an expression: a thing, an exception of an own class (with what its __init__ stored), or nothing is told -/
inductive Res (α : Type) where
  | ok (a : α) | exc (c : Nat) (fs : Option (List D)) | err
def Res.bind {α β : Type} (r : Res α) (f : α → Res β) : Res β := match r with
  | .ok a => f a
  | .exc c fs => .exc c fs
  | .err => .err
def Res.map {α β : Type} (f : α → β) (r : Res α) : Res β := r.bind fun a => .ok (f a)
@[simp] theorem Res.bind_ok {α β : Type} (a : α) (f : α → Res β) : (Res.ok a).bind f = f a := rfl
@[simp] theorem Res.bind_exc {α β : Type} (c fs) (f : α → Res β) : (Res.exc c fs).bind f = .exc c fs := rfl
@[simp] theorem Res.bind_err {α β : Type} (f : α → Res β) : (Res.err).bind f = .err := rfl
@[simp] theorem Res.map_ok {α β : Type} (a : α) (f : α → β) : (Res.ok a).map f = .ok (f a) := rfl

section
variable (Γ : Gm) (W : WX)
def post (σ : L2.St) (F H : Hp) {α : Type} (r : Res α) (k : α → Hp → Hp → Prop) : Prop := match r with
  | .ok a => ∀ F' H', Gr F H F' H' → k a F' H'
  | .exc c fs => ∀ F' H' d, Gr F H F' H' → XD Γ F' c fs d → W (.ref (Γ.cls c)) d σ H'
  | .err => False
/-- a new object at a: no name's own, no data yet -/
structure NewAt (G : Gd) (env : Env) (σ : L2.St) (F H : Hp) (a : Addr) (d : D) : Prop where
  fn : F a = none
  bn : G.B a = none
  top : Top Γ F H a d
  no : ∀ (i : Nat) di, env[i]? = some (.own di) → σ[i]? ≠ some (some (.ref a))
def RepT (F H : Hp) (d : D) (v : V) : Prop := Rep Γ F d v ∨ ∃ a, v = .ref a ∧ Top Γ F H a d
def kE (Q : VK) : D → Hp → Hp → Prop := fun d F' H' => ∀ v, Rep Γ F' d v → Q v H'
def kW (Q : VK) : D → Hp → Hp → Prop := fun d F' H' => ∀ v, RepT Γ F' H' d v → Q v H'
def kN (H : Hp) (Q : VK) : D → Hp → Hp → Prop := fun d F' H' => ∀ a, H a = none → F' a = none → Top Γ F' H' a d → Q (.ref a) H'
def kB (Q : Bool → Hp → Prop) : Bool → Hp → Hp → Prop := fun b _ H' => Q b H'
def kA (Q : List V → Hp → Prop) : List D → Hp → Hp → Prop := fun ds F' H' => ∀ vs, Reps Γ F' ds vs → Q vs H'
def tE (den : Env → Res D) : TE := fun σ H Q => ∃ G env F, ER Γ G env σ F H ∧ post Γ W σ F H (den env) (kE Γ Q)
def tW (den : Env → Res D) : TE := fun σ H Q => ∃ G env F, ER Γ G env σ F H ∧ post Γ W σ F H (den env) (kW Γ Q)
def tN (den : Env → Res D) : TE := fun σ H Q => ∃ G env F, ER Γ G env σ F H ∧ post Γ W σ F H (den env) (kN Γ H Q)
def tT (den : Env → Res Bool) : TT := fun σ H Q => ∃ G env F, ER Γ G env σ F H ∧ post Γ W σ F H (den env) (kB Q)
def tA (den : Env → Res (List D)) : TA := fun σ H Q => ∃ G env F, ER Γ G env σ F H ∧ post Γ W σ F H (den env) (kA Γ Q)
end

section
variable {Γ : Gm} {W : WX} {G : Gd} {env : Env} {σ : L2.St} {F F' H H' : Hp} {α β : Type}
theorem post.mono {r : Res α} {k : α → Hp → Hp → Prop} (g : Gr F H F' H') (h : post Γ W σ F H r k) : post Γ W σ F' H' r k := match r, h with
  | .ok _, h => fun F1 H1 q => h F1 H1 (g.trans q)
  | .exc _ _, h => fun F1 H1 d q => h F1 H1 d (g.trans q)
theorem post.imp {r : Res α} {k k' : α → Hp → Hp → Prop} (h : post Γ W σ F H r k) (i : ∀ a F' H', r = .ok a → Gr F H F' H' → k a F' H' → k' a F' H') : post Γ W σ F H r k' := match r, h, i with
  | .ok _, h, i => fun F1 H1 q => i _ F1 H1 rfl q (h F1 H1 q)
  | .exc _ _, h, _ => h
/-- a then b -/
theorem post.bind {r : Res α} {f : α → Res β} {k : β → Hp → Hp → Prop} (h : post Γ W σ F H (r.bind f) k) : post Γ W σ F H r (fun a F' H' => post Γ W σ F' H' (f a) k) := match r, h with
  | .ok _, h => fun F1 H1 q => h.mono q
  | .exc _ _, h => h
theorem post.ok {a : α} {k : α → Hp → Hp → Prop} (e : ER Γ G env σ F H) (h : post Γ W σ F H (Res.ok a) k) : k a F H := h F H (Gr.refl e.fh)

/-- a new object becomes data -/
theorem NewAt.freeze {a : Addr} {d : D} (e : ER Γ G env σ F H) (n : NewAt Γ G env σ F H a d) (hc : ∀ c ds, d = .obj c ds → ds.length = (Γ.flds c).length) :
    ∃ F', Same F F' ∧ (∀ p u, F' p = some u → F p = some u ∨ p = a) ∧ ER Γ G env σ F' H ∧ Rep Γ F' d (.ref a) := by
  obtain ⟨o, ho⟩ := n.top.some
  have sf : Same F (upd F a o) := fun b u q => by rw [upd_ne (ne_of_none q n.fn)]; exact q
  refine ⟨upd F a o, sf, fun p u q => ?_, ⟨e.len, fun b u q => ?_, e.bh, e.f0.trans sf, fun b u q => ?_, fun i s q => ?_, e.ds, e.me⟩, ?_⟩
  · by_cases hp : p = a
    · exact .inr hp
    · rw [upd_ne hp] at q; exact .inl q
  · by_cases hb : b = a
    · subst hb; rw [upd_same] at q; cases q; exact ho
    · rw [upd_ne hb] at q; exact e.fh _ _ q
  · by_cases hb : b = a
    · subst hb; exact .inr n.bn
    · rw [upd_ne hb] at q; exact e.fr _ _ q
  · obtain ⟨x, hx, r⟩ := e.sl i s q
    refine ⟨x, hx, ?_⟩
    cases s with
    | un => trivial
    | exn c fs => obtain ⟨x0, d0, e1, e2, r⟩ := r; exact ⟨x0, d0, e1, e2, r.mono sf⟩
    | val d => obtain ⟨v, e1, r⟩ := r; exact ⟨v, e1, r.mono sf⟩
    | own d' =>
      obtain ⟨b, e1, f, bb, t⟩ := r
      have hb : b ≠ a := fun z => by subst z; subst e1; exact n.no i d' q hx
      exact ⟨b, e1, by rw [upd_ne hb]; exact f, bb, t.mono sf fun _ z => z⟩
  · have t := n.top
    cases d with
    | lst ds => obtain ⟨vs, e1, l, r⟩ := t; rw [e1] at ho; cases ho; rw [Rep]; exact ⟨a, vs, rfl, upd_same, l, r.mono sf⟩
    | obj c ds =>
      obtain ⟨dx, fs, e1, l, r⟩ := t; rw [e1] at ho; cases ho; rw [Rep]
      exact ⟨a, dx, fs, rfl, upd_same, by rw [l, hc c ds rfl, List.take_length], r.mono sf⟩
    | dic ks ds => obtain ⟨kvs, e1, l, z, r⟩ := t; rw [e1] at ho; cases ho; rw [Rep]; exact ⟨a, kvs, rfl, upd_same, l, z, r.mono sf⟩
    | _ => exact t.elim
theorem fresh_gr {a : Addr} {d : D} (g : Gr F H F' H') (fa : F' a = none) (ha : H a = none) (t : Top Γ F' H' a d) (hf : ∀ c ds, d = .obj c ds → ds.length = (Γ.flds c).length) :
    ∃ F2, Gr F H F2 H' ∧ Rep Γ F2 d (.ref a) := by
  obtain ⟨o, ho⟩ := t.some
  have sf : Same F' (upd F' a o) := fun b u q => by rw [upd_ne (ne_of_none q fa)]; exact q
  refine ⟨upd F' a o, ⟨g.ff.trans sf, fun b u q => ?_, g.hh, fun p u q => ?_⟩, ?_⟩
  · by_cases hb : b = a
    · subst hb; rw [upd_same] at q; cases q; exact ho
    · rw [upd_ne hb] at q; exact g.fh _ _ q
  · by_cases hp : p = a
    · subst hp; exact .inr ha
    · rw [upd_ne hp] at q; exact g.new p u q
  · cases d with
    | lst ds => obtain ⟨vs, e1, l, r⟩ := t; rw [e1] at ho; cases ho; rw [Rep]; exact ⟨a, vs, rfl, upd_same, l, r.mono sf⟩
    | obj c ds =>
      obtain ⟨dx, fs, e1, l, r⟩ := t; rw [e1] at ho; cases ho; rw [Rep]
      exact ⟨a, dx, fs, rfl, upd_same, by rw [l, hf c ds rfl, List.take_length], r.mono sf⟩
    | dic ks ds => obtain ⟨kvs, e1, l, z, r⟩ := t; rw [e1] at ho; cases ho; rw [Rep]; exact ⟨a, kvs, rfl, upd_same, l, z, r.mono sf⟩
    | _ => exact t.elim
theorem ER.newAt {a : Addr} {d : D} (e : ER Γ G env σ F H) (g : Gr F H F' H') (ha : H a = none) (fa : F' a = none) (t : Top Γ F' H' a d) : NewAt Γ G env σ F' H' a d where
  fn := fa
  bn := by
    cases q : G.B a with
    | none => rfl
    | some u => have := e.bh a u q; rw [ha] at this; cases this
  top := t
  no := fun i di q z => by
    obtain ⟨x, hx, b, e1, _, _, t'⟩ := e.sl i _ q
    rw [z] at hx; cases hx; cases e1
    obtain ⟨o, ho⟩ := t'.some
    rw [ha] at ho; cases ho
theorem RepT.gr {d : D} {v : V} (g : Gr F H F' H') : RepT Γ F H d v → RepT Γ F' H' d v
  | .inl h => .inl (h.mono g.ff)
  | .inr ⟨a, e, t⟩ => .inr ⟨a, e, t.mono g.ff fun o => g.hh a o⟩
end

/-! ### rules by a reading's weakening -/
section
variable {X : Cx} {e : Expr}
theorem PE.w {t t' : TE} (h : PE X e t) (i : ∀ σ H Q, t' σ H Q → t σ H Q) : PE X e t' := ⟨fun pins s σ H Q I q => h.run pins s σ H Q I (i σ H Q q)⟩
/-- the reading may be chosen at each state -/
theorem PE.u {t' : TE} (h : ∀ σ H Q, t' σ H Q → ∃ t, PE X e t ∧ t σ H Q) : PE X e t' := ⟨fun pins s σ H Q I q => let ⟨_, a, b⟩ := h σ H Q q; a.run pins s σ H Q I b⟩
theorem PT.w {t t' : TT} (h : PT X e t) (i : ∀ σ H Q, t' σ H Q → t σ H Q) : PT X e t' := ⟨fun pins s σ H Q I q => h.run pins s σ H Q I (i σ H Q q)⟩
theorem PA.w {es : List Expr} {t t' : TA} (h : PA X es t) (i : ∀ σ H Q, t' σ H Q → t σ H Q) : PA X es t' := ⟨fun pos pins s σ H Q I q => h.run pos pins s σ H Q I (i σ H Q q)⟩
theorem PS.w {st : Stmt} {t t' : TS} (h : PS X st t) (i : ∀ D σ H, t' D σ H → t D σ H) : PS X st t' := ⟨fun pins s σ H D I q => h.run pins s σ H D I (i D σ H q)⟩
theorem PSs.w {st : List Stmt} {t t' : TS} (h : PSs X st t) (i : ∀ D σ H, t' D σ H → t D σ H) : PSs X st t' := ⟨fun pins s σ H D I q => h.run pins s σ H D I (i D σ H q)⟩
theorem PI.w {tg : Expr} {t t' : TI} (h : PI X tg e t) (i : ∀ σ H R, t' σ H R → t σ H R) : PI X tg e t' := ⟨fun pins s σ H R I q => h.run pins s σ H R I (i σ H R q)⟩
end

/-! ### leaves -/
section
variable {X : Cx} {Γ : Gm} {W : WX} {pos : Pos}
def dVar (i : Nat) : Env → Res D := fun env => match env[i]? with
  | some (.val d) => .ok d
  | _ => .err
/-- .. of a list or dict that is the name's own, too: it is looked at here -/
def dPeek (i : Nat) : Env → Res D := fun env => match env[i]? with
  | some (.val d) => .ok d
  | some (.own d) => .ok d
  | _ => .err
def dC (d : D) : Env → Res D := fun _ => .ok d
theorem e_var {i : Nat} {x : Str} (hp : PE X (.Name x pos) (tVar i)) : PE X (.Name x pos) (tE Γ W (dVar i)) := PE.w hp fun σ H Q ⟨G, env, F, er, h⟩ => by
  unfold dVar at h
  split at h
  · rename_i d e
    obtain ⟨y, hy, v, e1, r⟩ := er.sl i _ e
    subst e1
    exact ⟨v, hy, h.ok er v r⟩
  · exact h.elim
theorem w_peek {i : Nat} {x : Str} (hp : PE X (.Name x pos) (tVar i)) : PE X (.Name x pos) (tW Γ W (dPeek i)) := PE.w hp fun σ H Q ⟨G, env, F, er, h⟩ => by
  unfold dPeek at h
  split at h
  · rename_i d e
    obtain ⟨y, hy, v, e1, r⟩ := er.sl i _ e
    subst e1
    exact ⟨v, hy, h.ok er v (.inl r)⟩
  · rename_i d e
    obtain ⟨y, hy, a, e1, _, _, r⟩ := er.sl i _ e
    subst e1
    exact ⟨_, hy, h.ok er _ (.inr ⟨a, rfl, r⟩)⟩
  · exact h.elim
/-- strong is weak -/
theorem w_e {e : Expr} {den : Env → Res D} (h : PE X e (tE Γ W den)) : PE X e (tW Γ W den) := PE.w h fun σ H Q ⟨G, env, F, er, q⟩ =>
  ⟨G, env, F, er, q.imp fun d F' H' _ _ k v r => k v (.inl r)⟩
def flat (d : D) : Bool := match d with
  | .obj _ _ => false
  | _ => true
theorem e_n {e : Expr} {den : Env → Res D} (h : PE X e (tN Γ W den)) (hf : ∀ env d, den env = .ok d → flat d = true) : PE X e (tE Γ W den) := PE.w h fun σ H Q ⟨G, env, F, er, q⟩ => by
  refine ⟨G, env, F, er, ?_⟩
  have hf := hf env
  cases z : den env with
  | err => rw [z] at q; exact q
  | exc c fs => rw [z] at q; exact q
  | ok d =>
    rw [z] at q
    intro F1 H1 g a ha fa t
    obtain ⟨F2, g2, r⟩ := fresh_gr g fa ha t fun c ds hd => by have := hf d z; rw [hd] at this; cases this
    exact q F2 H1 g2 _ r
theorem w_n {e : Expr} {den : Env → Res D} (h : PE X e (tN Γ W den)) : PE X e (tW Γ W den) := PE.w h fun σ H Q ⟨G, env, F, er, q⟩ =>
  ⟨G, env, F, er, q.imp fun d F' H' _ _ k a _ _ n => k _ (.inr ⟨a, rfl, n⟩)⟩
theorem e_c {e : Expr} {v : V} {d : D} (hp : PE X e (tC v)) (hr : ∀ F, Rep Γ F d v) : PE X e (tE Γ W (dC d)) := PE.w hp fun σ H Q ⟨G, env, F, er, h⟩ => h.ok er v (hr F)
theorem e_int {i j} : PE X (.Constant (.int i) j pos) (tE Γ W (dC (.int i))) := e_c pe_int fun F => by rw [Rep]
theorem e_bl {b j} : PE X (.Constant (.bool b) j pos) (tE Γ W (dC (.bl b))) := e_c pe_bl fun F => by rw [Rep]
theorem e_non {j} : PE X (.Constant .none j pos) (tE Γ W (dC .non)) := e_c pe_non fun F => by rw [Rep]
theorem e_str {x : Str} {j} (h : sOk x = true := by decide +kernel) : PE X (.Constant (.str x) j pos) (tE Γ W (dC (.str x))) := e_c pe_str fun F => by rw [Rep]; exact ⟨rfl, h⟩
end

/-! ### arguments -/
section
variable {X : Cx} {Γ : Gm} {W : WX} {pos : Pos} {e : Expr} {es : List Expr}
def dNil : Env → Res (List D) := fun _ => .ok []
def dCons (a : Env → Res D) (r : Env → Res (List D)) : Env → Res (List D) := fun env => (a env).bind fun d => (r env).bind fun ds => .ok (d :: ds)
theorem ER.sameOf {G : Gd} {env : Env} {σ : L2.St} {F H : Hp} (e : ER Γ G env σ F H) : Same F H := e.fh
theorem a_nil : PA X [] (tA Γ W dNil) := PA.w pa_nil fun σ H Q ⟨G, env, F, er, h⟩ => h.ok er [] .nil
theorem a_cons {da : Env → Res D} {dr : Env → Res (List D)} (ha : PE X e (tE Γ W da)) (hr : PA X es (tA Γ W dr)) (hs : starEach (e :: es) X.env = (false, eval e X.env) :: starEach es X.env := by rfl) :
    PA X (e :: es) (tA Γ W (dCons da dr)) := PA.w (pa_cons ha hr hs) fun σ H Q ⟨G, env, F, er, h⟩ => by
  refine ⟨G, env, F, er, h.bind.imp fun d F1 H1 _ g1 h1 v r1 => ⟨G, env, F1, er.gr g1, h1.bind.imp fun ds F2 H2 _ g2 h2 vs r2 => ?_⟩⟩
  exact h2.ok ((er.gr g1).gr g2) _ (.cons (r1.mono g2.ff) r2)
end
end Dn

/-! Den3.lean -/
namespace Dn
open PySem PySem.Spec PyProof.Rows L2

inductive Out where
  | nx (e : Env) | ret (d : D) | bk (e : Env) | ct (e : Env) | exc (e : Env) (c : Nat) (fs : Option (List D)) | err
section
variable (Γ : Gm) (W : WX)
def sPost (G : Gd) (Dn : Ends) (F : Hp) : Out → Prop
  | .nx e => ∀ σ' F' H', Same F F' → ER Γ G e σ' F' H' → Dn.nx σ' H'
  | .bk e => ∀ σ' F' H', Same F F' → ER Γ G e σ' F' H' → Dn.bk σ' H'
  | .ct e => ∀ σ' F' H', Same F F' → ER Γ G e σ' F' H' → Dn.ct σ' H'
  | .ret d => ∀ v e σ' F' H', Same F F' → ER Γ G e σ' F' H' → Rep Γ F' d v → Dn.rt v H'
  | .exc e c fs => ∀ σ' F' H' d, Same F F' → ER Γ G e σ' F' H' → XD Γ F' c fs d → W (.ref (Γ.cls c)) d σ' H'
  | .err => False
def tS (den : Env → Out) : TS := fun Dn σ H => ∃ G env F, ER Γ G env σ F H ∧ sPost Γ W G Dn F (den env)
end
section
variable {Γ : Gm} {W : WX} {G : Gd} {env : Env} {σ : L2.St} {F F' H H' : Hp} {Dn : Ends}
theorem sPost.mono (s : Same F F') : ∀ {o : Out}, sPost Γ W G Dn F o → sPost Γ W G Dn F' o
  | .nx _, h => fun σ' F1 H1 q e => h σ' F1 H1 (s.trans q) e
  | .bk _, h => fun σ' F1 H1 q e => h σ' F1 H1 (s.trans q) e
  | .ct _, h => fun σ' F1 H1 q e => h σ' F1 H1 (s.trans q) e
  | .ret _, h => fun v e σ' F1 H1 q er r => h v e σ' F1 H1 (s.trans q) er r
  | .exc _ _ _, h => fun σ' F1 H1 d q e x => h σ' F1 H1 d (s.trans q) e x

theorem ER.set (e : ER Γ G env σ F H) (i : Nat) {d : D} {v : V} (r : Rep Γ F d v) : ER Γ G (env.set i (.val d)) (σ.set i (some v)) F H := by
  refine ⟨by simp [e.len], e.fh, e.bh, e.f0, e.fr, fun j s q => ?_, fun j k a dj dk q1 q2 q3 q4 => ?_, fun x d0 hx q => ?_⟩
  · by_cases hj : i = j
    · subst hj
      have hl : i < env.length := by
        have := (List.getElem?_eq_some_iff.mp q).1
        simpa using this
      rw [List.getElem?_set_self hl] at q; cases q
      exact ⟨some v, by rw [List.getElem?_set_self (by rw [e.len]; exact hl)], v, rfl, r⟩
    · rw [List.getElem?_set_ne hj] at q
      obtain ⟨x, a, b⟩ := e.sl j s q
      exact ⟨x, by rw [List.getElem?_set_ne hj]; exact a, b⟩
  · have ne : ∀ {j dj}, (env.set i (.val d))[j]? = some (.own dj) → i ≠ j ∧ env[j]? = some (.own dj) := fun {j dj} q => by
      by_cases hj : i = j
      · subst hj
        have hl : i < env.length := by
          have := (List.getElem?_eq_some_iff.mp q).1
          simpa using this
        rw [List.getElem?_set_self hl] at q; cases q
      · rw [List.getElem?_set_ne hj] at q; exact ⟨hj, q⟩
    obtain ⟨n1, q1⟩ := ne q1
    obtain ⟨n2, q2⟩ := ne q2
    rw [List.getElem?_set_ne n1] at q3
    rw [List.getElem?_set_ne n2] at q4
    exact e.ds j k a dj dk q1 q2 q3 q4
  · by_cases h0 : i = 0
    · subst h0
      have hl : 0 < env.length := by
        have := (List.getElem?_eq_some_iff.mp q).1
        simpa using this
      rw [List.getElem?_set_self hl] at q; cases q
    · rw [List.getElem?_set_ne h0] at q ⊢; exact e.me x d0 hx q
theorem ER.setOwn (e : ER Γ G env σ F H) (i : Nat) {d : D} {a : Addr} (n : NewAt Γ G env σ F H a d) (hi : i ≠ 0) : ER Γ G (env.set i (.own d)) (σ.set i (some (.ref a))) F H := by
  refine ⟨by simp [e.len], e.fh, e.bh, e.f0, e.fr, fun j s q => ?_, fun j k b dj dk q1 q2 q3 q4 => ?_, fun x d0 hx q => by rw [List.getElem?_set_ne hi] at q ⊢; exact e.me x d0 hx q⟩
  · by_cases hj : i = j
    · subst hj
      have hl : i < env.length := by
        have := (List.getElem?_eq_some_iff.mp q).1
        simpa using this
      rw [List.getElem?_set_self hl] at q; cases q
      exact ⟨_, by rw [List.getElem?_set_self (by rw [e.len]; exact hl)], a, rfl, n.fn, n.bn, n.top⟩
    · rw [List.getElem?_set_ne hj] at q
      obtain ⟨x, a, b⟩ := e.sl j s q
      exact ⟨x, by rw [List.getElem?_set_ne hj]; exact a, b⟩
  · have hlt : ∀ {j dj}, (env.set i (.own d))[j]? = some (.own dj) → j < env.length := fun {j dj} q => by
      have := (List.getElem?_eq_some_iff.mp q).1
      simpa using this
    have h1 := hlt q1
    have h2 := hlt q2
    by_cases hj : i = j
    · by_cases hk : i = k
      · exact hj.symm.trans hk
      · subst hj
        rw [List.getElem?_set_ne hk] at q2 q4
        rw [List.getElem?_set_self (by rw [e.len]; exact h1)] at q3
        cases q3
        exact (n.no k dk q2 q4).elim
    · by_cases hk : i = k
      · subst hk
        rw [List.getElem?_set_ne hj] at q1 q3
        rw [List.getElem?_set_self (by rw [e.len]; exact h2)] at q4
        cases q4
        exact (n.no j dj q1 q3).elim
      · rw [List.getElem?_set_ne hj] at q1 q3
        rw [List.getElem?_set_ne hk] at q2 q4
        exact e.ds j k b dj dk q1 q2 q3 q4
/-- a name's value is forgotten -/
theorem ER.kill (e : ER Γ G env σ F H) (i : Nat) : ER Γ G (env.set i .un) σ F H := by
  have ne : ∀ {j : Nat} {s : Slot}, (env.set i Slot.un)[j]? = some s → s = Slot.un ∨ env[j]? = some s := fun {j s} q => by
    by_cases hj : i = j
    · subst hj
      have hl : i < env.length := by
        have := (List.getElem?_eq_some_iff.mp q).1
        simpa using this
      rw [List.getElem?_set_self hl] at q; cases q; exact .inl rfl
    · rw [List.getElem?_set_ne hj] at q; exact .inr q
  refine ⟨by simp [e.len], e.fh, e.bh, e.f0, e.fr, fun j s q => ?_, fun j k b dj dk q1 q2 q3 q4 => ?_, fun x d0 hx q => e.me x d0 hx ((ne q).resolve_left (fun z => nomatch z))⟩
  · rcases ne q with z | z
    · subst z
      have hl : j < σ.length := by
        have := (List.getElem?_eq_some_iff.mp q).1
        rw [e.len]; simpa using this
      exact ⟨σ[j], by simp [hl], trivial⟩
    · exact e.sl j s z
  · rcases ne q1 with z | z
    · cases z
    · rcases ne q2 with z' | z'
      · cases z'
      · exact e.ds j k b dj dk z z' q3 q4
/-- any value at a forgotten name -/
theorem ER.setUn (e : ER Γ G env σ F H) (i : Nat) (x : Option V) (h : env[i]? = some .un) : ER Γ G env (σ.set i x) F H := by
  refine ⟨by simp [e.len], e.fh, e.bh, e.f0, e.fr, fun j s q => ?_, fun j k b dj dk q1 q2 q3 q4 => ?_, fun y d0 hx q => ?_⟩
  · by_cases hj : i = j
    · subst hj
      rw [h] at q; cases q
      have hl : i < env.length := (List.getElem?_eq_some_iff.mp h).1
      exact ⟨x, by rw [List.getElem?_set_self (by rw [e.len]; exact hl)], trivial⟩
    · obtain ⟨y, a, b⟩ := e.sl j s q
      exact ⟨y, by rw [List.getElem?_set_ne hj]; exact a, b⟩
  · have n1 : i ≠ j := fun z => by subst z; rw [h] at q1; cases q1
    have n2 : i ≠ k := fun z => by subst z; rw [h] at q2; cases q2
    rw [List.getElem?_set_ne n1] at q3
    rw [List.getElem?_set_ne n2] at q4
    exact e.ds j k b dj dk q1 q2 q3 q4
  · have n0 : i ≠ 0 := fun z => by subst z; rw [h] at q; cases q
    rw [List.getElem?_set_ne n0]; exact e.me y d0 hx q
def kills (is : List Nat) (env : Env) : Env := is.foldl (fun e i => e.set i .un) env
theorem ER.kills (is : List Nat) : ∀ {env : Env}, ER Γ G env σ F H → ER Γ G (kills is env) σ F H := by
  induction is with
  | nil => intro env e; exact e
  | cons i r ih => intro env e; exact ih (e.kill i)
/-- the own object of slot i is changed -/
theorem ER.write (e : ER Γ G env σ F H) {i : Nat} {d d' : D} {a : Addr} {o : HO} (h : env[i]? = some (.own d)) (hs : σ[i]? = some (some (.ref a))) (t : Top Γ F (upd H a o) a d') : ER Γ G (env.set i (.own d')) σ F (upd H a o) := by
  obtain ⟨x, hx, b, e1, fn, bn, top⟩ := e.sl i _ h
  rw [hs] at hx; cases hx; cases e1
  have hi : i < env.length := (List.getElem?_eq_some_iff.mp h).1
  refine ⟨by simp [e.len], fun p u q => ?_, fun p u q => ?_, e.f0, e.fr, fun j s q => ?_, fun j k b dj dk q1 q2 q3 q4 => ?_, fun x d0 hx q => ?_⟩
  · rw [upd_ne (ne_of_none q fn)]; exact e.fh p u q
  · rw [upd_ne (ne_of_none q bn)]; exact e.bh p u q
  · by_cases hj : i = j
    · subst hj
      rw [List.getElem?_set_self hi] at q; cases q
      exact ⟨_, hs, a, rfl, fn, bn, t⟩
    · rw [List.getElem?_set_ne hj] at q
      obtain ⟨y, hy, r⟩ := e.sl j s q
      refine ⟨y, hy, ?_⟩
      cases s with
      | un => trivial
      | exn _ _ => exact r
      | val _ => exact r
      | own dj =>
        obtain ⟨b, e2, f2, b2, t2⟩ := r
        subst e2
        have hb : b ≠ a := fun z => by subst z; exact hj (e.ds i j b d dj h q hs hy)
        exact ⟨b, rfl, f2, b2, t2.mono (Same.refl _) fun u q => by rw [upd_ne hb]; exact q⟩
  · have ne : ∀ {j : Nat} {dj : D}, (env.set i (Slot.own d'))[j]? = some (Slot.own dj) → ∃ dj', env[j]? = some (Slot.own dj') := fun {j dj} q => by
      by_cases hj : i = j
      · subst hj; exact ⟨d, h⟩
      · rw [List.getElem?_set_ne hj] at q; exact ⟨dj, q⟩
    obtain ⟨_, q1⟩ := ne q1
    obtain ⟨_, q2⟩ := ne q2
    exact e.ds j k b _ _ q1 q2 q3 q4
  · by_cases h0 : i = 0
    · subst h0; exact e.me x d hx h
    · rw [List.getElem?_set_ne h0] at q; exact e.me x d0 hx q
/-- the own object of slot i becomes data -/
theorem ER.freeze (e : ER Γ G env σ F H) {i : Nat} {d : D} (h : env[i]? = some (.own d)) (hf : flat d = true) : ∃ F', Same F F' ∧ ER Γ G (env.set i (.val d)) σ F' H := by
  obtain ⟨x, hx, a, e1, fn, bn, top⟩ := e.sl i _ h
  subst e1
  have hi : i < env.length := (List.getElem?_eq_some_iff.mp h).1
  have ek := e.kill i
  have n : NewAt Γ G (env.set i .un) σ F H a d := ⟨fn, bn, top, fun j dj q z => by
    by_cases hj : i = j
    · subst hj; rw [List.getElem?_set_self hi] at q; cases q
    · rw [List.getElem?_set_ne hj] at q
      exact hj (e.ds i j a d dj h q hx z)⟩
  obtain ⟨F', s, _, e2, r⟩ := n.freeze ek fun c ds z => by rw [z] at hf; cases hf
  refine ⟨F', s, ?_⟩
  have e3 := e2.set i r
  rw [List.set_set] at e3
  have : σ.set i (some (V.ref a)) = σ := by
    apply List.ext_getElem?
    intro j
    by_cases hj : i = j
    · subst hj; rw [List.getElem?_set_self (by rw [e.len]; exact hi), hx]
    · rw [List.getElem?_set_ne hj]
  rw [this] at e3
  exact e3
end

/-! ### statements -/
section
variable {X : Cx} {Γ : Gm} {W : WX} {pos : Pos} {st : Stmt} {sts : List Stmt} {e c : Expr}
def dSkip : Env → Out := fun env => .nx env
def dSeq (a b : Env → Out) : Env → Out := fun env => match a env with
  | .nx e => b e
  | o => o
def dSet (i : Nat) (den : Env → Res D) : Env → Out := fun env => match den env with
  | .ok d => .nx (env.set i (.val d))
  | .exc c fs => .exc env c fs
  | .err => .err
def dOwn (i : Nat) (den : Env → Res D) : Env → Out := fun env => match den env with
  | .ok d => .nx (env.set i (.own d))
  | .exc c fs => .exc env c fs
  | .err => .err
def dRet (den : Env → Res D) : Env → Out := fun env => match den env with
  | .ok d => .ret d
  | .exc c fs => .exc env c fs
  | .err => .err
def dDo (den : Env → Res D) : Env → Out := fun env => match den env with
  | .ok _ => .nx env
  | .exc c fs => .exc env c fs
  | .err => .err
def dIf (t : Env → Res Bool) (a b : Env → Out) : Env → Out := fun env => match t env with
  | .ok true => a env
  | .ok false => b env
  | .exc c fs => .exc env c fs
  | .err => .err
/-- ahead of a statement: what is known is turned -/
def dPre (g : Env → Env) (s : Env → Out) : Env → Out := fun env => s (g env)
theorem ss_nil : PSs X [] (tS Γ W dSkip) := PSs.w pss_nil fun D σ H ⟨G, env, F, er, h⟩ => h σ F H (Same.refl _) er
theorem ss_cons {a b : Env → Out} (h1 : PS X st (tS Γ W a)) (h2 : PSs X sts (tS Γ W b)) : PSs X (st :: sts) (tS Γ W (dSeq a b)) := PSs.w (pss_cons h1 h2) fun D σ H ⟨G, env, F, er, h⟩ => by
  refine ⟨G, env, F, er, ?_⟩
  unfold dSeq at h
  cases z : a env with
  | nx e => rw [z] at h; exact fun σ' F' H' s e' => ⟨G, e, F', e', h.mono s⟩
  | ret d => rw [z] at h; exact h
  | bk e => rw [z] at h; exact h
  | ct e => rw [z] at h; exact h
  | exc e c fs => rw [z] at h; exact h
  | err => rw [z] at h; exact h
theorem ss_one {a : Env → Out} (h1 : PS X st (tS Γ W a)) : PSs X [st] (tS Γ W a) := pss_one h1
theorem s_pass : PS X (.Pass pos) (tS Γ W dSkip) := PS.w ps_pass fun D σ H ⟨G, env, F, er, h⟩ => h σ F H (Same.refl _) er
theorem s_doc {x j pos'} : PS X (.Expr (.Constant (.str x) j pos) pos') (tS Γ W dSkip) := PS.w ps_doc fun D σ H ⟨G, env, F, er, h⟩ => h σ F H (Same.refl _) er
theorem s_break : PS X (.Break pos) (tS Γ W Out.bk) := PS.w ps_break fun D σ H ⟨G, env, F, er, h⟩ => h σ F H (Same.refl _) er
theorem s_continue : PS X (.Continue pos) (tS Γ W Out.ct) := PS.w ps_continue fun D σ H ⟨G, env, F, er, h⟩ => h σ F H (Same.refl _) er
theorem xpost {G : Gd} {env : Env} {σ : L2.St} {F H : Hp} {r : Res D} {Dd : Ends} {f : D → Out} (k : D → Hp → Hp → Prop) (er : ER Γ G env σ F H)
    (h : sPost Γ W G Dd F (match r with | .ok d => f d | .exc c fs => .exc env c fs | .err => .err)) (i : ∀ d F' H', Gr F H F' H' → ER Γ G env σ F' H' → sPost Γ W G Dd F' (f d) → k d F' H') : post Γ W σ F H r k := by
  cases r with
  | ok d => exact fun F' H' g => i d F' H' g (er.gr g) (h.mono g.ff)
  | exc c fs => exact fun F' H' d g x => h σ F' H' d g.ff (er.gr g) x
  | err => exact h.elim
theorem s_ret {den : Env → Res D} (h : PE X e (tE Γ W den)) : PS X (.Return (some e) pos) (tS Γ W (dRet den)) := PS.w (ps_ret h) fun D σ H ⟨G, env, F, er, q⟩ => by
  refine ⟨G, env, F, er, xpost (f := Out.ret) _ er q fun d F' H' s e' q v r => q v env σ F' H' (Same.refl _) e' r⟩
theorem s_retN : PS X (.Return none pos) (tS Γ W (dRet (dC .non))) := PS.w ps_retN fun D σ H ⟨G, env, F, er, q⟩ => q .non env σ F H (Same.refl _) er (by rw [Rep])
theorem s_do {den : Env → Res D} (h : PE X e (tW Γ W den)) (hs : swapsWith e none pos.line X.env = pure false := by rfl) : PS X (.Expr e pos) (tS Γ W (dDo den)) := PS.w (ps_expr h hs) fun D σ H ⟨G, env, F, er, q⟩ => by
  refine ⟨G, env, F, er, xpost (f := fun _ => Out.nx env) _ er q fun d F' H' s e' q v r => q σ F' H' (Same.refl _) e'⟩
theorem s_set {den : Env → Res D} {i : Nat} (h : ∀ te, PE X e te → PS X st (tAsg te (gName i))) (he : PE X e (tE Γ W den)) : PS X st (tS Γ W (dSet i den)) := PS.w (h _ he) fun D σ H ⟨G, env, F, er, q⟩ => by
  refine ⟨G, env, F, er, xpost (f := fun d => Out.nx (env.set i (.val d))) _ er q fun d F' H' s e' q v r => q _ F' H' (Same.refl _) (e'.set i r)⟩
theorem s_own {den : Env → Res D} {i : Nat} (h : ∀ te, PE X e te → PS X st (tAsg te (gName i))) (he : PE X e (tN Γ W den)) (hi : i ≠ 0 := by decide) : PS X st (tS Γ W (dOwn i den)) := PS.w (h _ he) fun D σ H ⟨G, env, F, er, q⟩ => by
  refine ⟨G, env, F, er, xpost (f := fun d => Out.nx (env.set i (.own d))) _ er q fun d F' H' g e' q a ha fa t => q _ F' H' (Same.refl _) (e'.setOwn i (er.newAt g ha fa t) hi)⟩
theorem s_if {t : Env → Res Bool} {a b : List Stmt} {da db : Env → Out} (ht : PT X c (tT Γ W t)) (ha : PSs X a (tS Γ W da)) (hb : PSs X b (tS Γ W db)) : PS X (.If c a b pos) (tS Γ W (dIf t da db)) := PS.w (ps_if ht ha hb) fun D σ H ⟨G, env, F, er, q⟩ => by
  refine ⟨G, env, F, er, ?_⟩
  unfold dIf at q
  cases z : t env with
  | ok k =>
    rw [z] at q
    intro F' H' g
    cases k with
    | true => exact ⟨G, env, F', er.gr g, q.mono g.ff⟩
    | false => exact ⟨G, env, F', er.gr g, q.mono g.ff⟩
  | exc c fs => rw [z] at q; exact fun F' H' d g x => q σ F' H' d g.ff (er.gr g) x
  | err => rw [z] at q; exact q.elim
/-- what is known of names may be weakened -/
def Ghost (Γ : Gm) (g : Env → Env) : Prop := ∀ {G env σ F H}, ER Γ G env σ F H → ∃ F', Same F F' ∧ ER Γ G (g env) σ F' H
theorem s_pre {g : Env → Env} {d : Env → Out} (hg : Ghost Γ g) (h : PS X st (tS Γ W d)) : PS X st (tS Γ W (dPre g d)) := PS.w h fun D σ H ⟨G, env, F, er, q⟩ =>
  let ⟨F', s, e⟩ := hg er; ⟨G, _, F', e, q.mono s⟩
theorem ss_pre {g : Env → Env} {d : Env → Out} (hg : Ghost Γ g) (h : PSs X sts (tS Γ W d)) : PSs X sts (tS Γ W (dPre g d)) := PSs.w h fun D σ H ⟨G, env, F, er, q⟩ =>
  let ⟨F', s, e⟩ := hg er; ⟨G, _, F', e, q.mono s⟩
theorem Ghost.kills (is : List Nat) : Ghost Γ (Dn.kills is) := fun er => ⟨_, Same.refl _, er.kills is⟩
def frz (i : Nat) (env : Env) : Env := match env[i]? with
  | some (.own d) => if flat d = true then env.set i (.val d) else env
  | _ => env
theorem Ghost.frz (i : Nat) : Ghost Γ (Dn.frz i) := fun {G env σ F H} er => by
  unfold Dn.frz
  split
  · rename_i d h
    split
    · rename_i hf
      exact er.freeze h hf
    · exact ⟨_, Same.refl _, er⟩
  · exact ⟨_, Same.refl _, er⟩
def frzs (is : List Nat) (env : Env) : Env := is.foldl (fun e i => frz i e) env
theorem Ghost.frzs (is : List Nat) : Ghost Γ (Dn.frzs is) := by
  unfold Ghost
  induction is with
  | nil => intro G env σ F H er; exact ⟨_, Same.refl _, er⟩
  | cons i r ih =>
    intro G env σ F H er
    obtain ⟨F1, s1, e1⟩ := Ghost.frz i er
    obtain ⟨F2, s2, e2⟩ := ih e1
    exact ⟨F2, s1.trans s2, e2⟩
end
end Dn

/-! Den4.lean -/
namespace Dn
open PySem PySem.Spec PyProof.Rows L2

/-! ### operators by values -/
def op? {α : Type} : Option α → Res α
  | some d => .ok d
  | none => .err
@[simp] theorem op?_some {α : Type} (a : α) : op? (some a) = Res.ok a := rfl
@[simp] theorem op?_none {α : Type} : op? (none : Option α) = Res.err := rfl
def dBin (f : D → D → Option D) (a b : Env → Res D) : Env → Res D := fun env => (a env).bind fun x => (b env).bind fun y => op? (f x y)
def dUn (f : D → Option D) (a : Env → Res D) : Env → Res D := fun env => (a env).bind fun x => op? (f x)
/-- what a rule by values must give: a thing -/
def OpS (Γ : Gm) (r : R2) (f : D → D → Option D) : Prop := ∀ {F H : Hp} {x y : D} {v w : V} {Q : VK} {d : D}, Same F H → RepT Γ F H x v → RepT Γ F H y w → f x y = some d →
  (∀ u F' H', Gr F H F' H' → Rep Γ F' d u → Q u H') → r v w H Q
/-- .. a new object -/
def OpN (Γ : Gm) (r : R2) (f : D → D → Option D) : Prop := ∀ {F H : Hp} {x y : D} {v w : V} {Q : VK} {d : D}, Same F H → RepT Γ F H x v → RepT Γ F H y w → f x y = some d →
  (∀ p F' H', Gr F H F' H' → F' p = none → H p = none → Top Γ F' H' p d → Q (.ref p) H') → r v w H Q
section
variable {X : Cx} {Γ : Gm} {W : WX} {pos : Pos} {a b : Expr}
theorem OpN.s {r : R2} {f : D → D → Option D} (h : OpN Γ r f) (hf : ∀ x y d, f x y = some d → flat d = true) : OpS Γ r f := fun {F H x y v w Q d} s rx ry e k => by
  refine h s rx ry e fun p F' H' g fp hp t => ?_
  obtain ⟨F2, g2, r2⟩ := fresh_gr g fp hp t fun c ds hd => by have := hf x y d e; rw [hd] at this; cases this
  exact k _ F2 H' g2 r2
theorem bin_s {r : R2} {f : D → D → Option D} {da db : Env → Res D} {Q : VK} {σ : L2.St} {H : Hp} (hr : OpS Γ r f)
    (h : tE Γ W (dBin f da db) σ H Q) : tOp r (tW Γ W da) (tW Γ W db) σ H Q := by
  obtain ⟨G, env, F, er, h⟩ := h
  refine ⟨G, env, F, er, h.bind.imp fun x F1 H1 _ g1 h1 v r1 => ⟨G, env, F1, er.gr g1, h1.bind.imp fun y F2 H2 _ g2 h2 w r2 => ?_⟩⟩
  have e2 := (er.gr g1).gr g2
  cases z : f x y with
  | none => rw [z] at h2; exact h2.elim
  | some d =>
    rw [z] at h2
    exact hr e2.fh (r1.gr g2) r2 z fun u F' H' g r => h2 F' H' g u r
theorem bin_n {r : R2} {f : D → D → Option D} {da db : Env → Res D} {Q : VK} {σ : L2.St} {H : Hp} (hr : OpN Γ r f)
    (h : tN Γ W (dBin f da db) σ H Q) : tOp r (tW Γ W da) (tW Γ W db) σ H Q := by
  obtain ⟨G, env, F, er, h⟩ := h
  refine ⟨G, env, F, er, h.bind.imp fun x F1 H1 _ g1 h1 v r1 => ⟨G, env, F1, er.gr g1, h1.bind.imp fun y F2 H2 _ g2 h2 w r2 => ?_⟩⟩
  have e2 := (er.gr g1).gr g2
  cases z : f x y with
  | none => rw [z] at h2; exact h2.elim
  | some d =>
    rw [z] at h2
    refine hr e2.fh (r1.gr g2) r2 z fun p F' H' g fp hp t => h2 F' H' g p ?_ fp t
    cases q : H p with
    | none => rfl
    | some o => have := (g1.trans g2).hh p o q; rw [hp] at this; cases this
theorem e_bin {op : Operator} {r : R2} {f : D → D → Option D} {da db : Env → Res D} (ho : OpR X (binaryOp op) r) (hr : OpS Γ r f) (ha : PE X a (tW Γ W da)) (hb : PE X b (tW Γ W db)) : PE X (.BinOp a op b pos) (tE Γ W (dBin f da db)) :=
  PE.w (pe_op ho ha hb) fun _ _ _ h => bin_s hr h
theorem n_bin {op : Operator} {r : R2} {f : D → D → Option D} {da db : Env → Res D} (ho : OpR X (binaryOp op) r) (hr : OpN Γ r f) (ha : PE X a (tW Γ W da)) (hb : PE X b (tW Γ W db)) : PE X (.BinOp a op b pos) (tN Γ W (dBin f da db)) :=
  PE.w (pe_op ho ha hb) fun _ _ _ h => bin_n hr h
theorem e_cmp {op : CmpOp} {r : R2} {f : D → D → Option D} {da db : Env → Res D} (ho : OpR X (compareOp op) r) (hr : OpS Γ r f) (ha : PE X a (tW Γ W da)) (hb : PE X b (tW Γ W db)) (hm : behindInMarks op b = false := by rfl) : PE X (.Compare a [op] [b] pos) (tE Γ W (dBin f da db)) :=
  PE.w (pe_cmpR ho ha hb hm) fun _ _ _ h => bin_s hr h
theorem OpS.or {r r' : R2} {f g : D → D → Option D} (h : OpS Γ r f) (h' : OpS Γ r' g) : OpS Γ (fun x y H Q => r x y H Q ∨ r' x y H Q) (fun x y => (f x y).or (g x y)) := fun {F H x y v w Q d} s rx ry e k => by
  have e : (f x y).or (g x y) = some d := e
  cases z : f x y with
  | some d' => rw [z] at e; cases e; exact .inl (h s rx ry z k)
  | none => rw [z] at e; exact .inr (h' s rx ry e k)

/-! ### what stands for what -/
theorem RepT.int {F H : Hp} {i : Int} {v : V} : RepT Γ F H (.int i) v → v = .int i
  | .inl h => by rw [Rep] at h; exact h
  | .inr ⟨_, _, t⟩ => t.elim
theorem RepT.bl {F H : Hp} {i : Bool} {v : V} : RepT Γ F H (.bl i) v → v = .bl i
  | .inl h => by rw [Rep] at h; exact h
  | .inr ⟨_, _, t⟩ => t.elim
theorem RepT.non {F H : Hp} {v : V} : RepT Γ F H .non v → v = .non
  | .inl h => by rw [Rep] at h; exact h
  | .inr ⟨_, _, t⟩ => t.elim
theorem RepT.str {F H : Hp} {i : Str} {v : V} : RepT Γ F H (.str i) v → v = .str i ∧ sOk i = true
  | .inl h => by rw [Rep] at h; exact h
  | .inr ⟨_, _, t⟩ => t.elim
theorem RepT.lst {F H : Hp} {ds : List D} {v : V} (s : Same F H) : RepT Γ F H (.lst ds) v → ∃ a vs, v = .ref a ∧ H a = some (.lst vs) ∧ ds.length ≤ sizeLine ∧ Reps Γ F ds vs
  | .inl h => by rw [Rep] at h; obtain ⟨a, vs, e, q, l, r⟩ := h; exact ⟨a, vs, e, s _ _ q, l, r⟩
  | .inr ⟨a, e, vs, q, l, r⟩ => ⟨a, vs, e, q, l, r⟩
theorem RepT.tup {F H : Hp} {ds : List D} {v : V} (s : Same F H) : RepT Γ F H (.tup ds) v → ∃ a vs, v = .ref a ∧ SqT Γ.K H a vs ∧ ds.length ≤ sizeLine ∧ Reps Γ F ds vs
  | .inl h => by rw [Rep] at h; obtain ⟨a, vs, e, q, l, r⟩ := h; exact ⟨a, vs, e, Same.sqt s q, l, r⟩
  | .inr ⟨_, _, t⟩ => t.elim
theorem RepT.scr {F H : Hp} {ns : List Int} {v : V} (s : Same F H) : RepT Γ F H (.scr ns) v → ∃ a, v = .ref a ∧ ns.length ≤ sizeLine ∧ SqL Γ.K H a (ns.map V.int)
  | .inl h => by rw [Rep] at h; obtain ⟨a, e, l, q, _⟩ := h; exact ⟨a, e, l, s.seq q⟩
  | .inr ⟨_, _, t⟩ => t.elim
theorem reps_ints {F : Hp} : ∀ {ns : List Int}, Reps Γ F (ns.map D.int) (ns.map V.int)
  | [] => .nil
  | n :: ns => .cons (by rw [Rep]) reps_ints

theorem sOk_len {s : Str} (h : sOk s = true) : s.length ≤ sizeLine := by
  unfold sOk at h; rw [Bool.and_eq_true] at h; exact of_decide_eq_true h.1
theorem sOk_ok {s : Str} (h : sOk s = true) : PyData.strOk s = true := by
  unfold sOk at h; rw [Bool.and_eq_true] at h; exact h.2
theorem sOk_mk {s : Str} (h1 : s.length ≤ sizeLine) (h2 : ∀ c ∈ s.cps.toList, c < 0x110000) : sOk s = true := by
  unfold sOk; rw [Bool.and_eq_true]; refine ⟨decide_eq_true h1, ?_⟩
  unfold PyData.strOk
  rw [Array.all_eq_true]
  intro i hi
  exact decide_eq_true (h2 _ (by simp))
theorem sOk_cps {s : Str} (h : sOk s = true) : ∀ c ∈ s.cps.toList, c < 0x110000 := by
  have := sOk_ok h
  unfold PyData.strOk at this
  rw [Array.all_eq_true] at this
  intro c hc
  obtain ⟨i, hi, e⟩ := List.getElem_of_mem hc
  have z := this i (by simpa using hi)
  rw [← e]
  simpa using z
theorem sOk_append {s t : Str} (h : sOk s = true) (k : sOk t = true) (l : s.length + t.length ≤ sizeLine) : sOk (s ++ t) = true := by
  have e : (s ++ t).cps = s.cps ++ t.cps := rfl
  refine sOk_mk (by show (s ++ t).cps.size ≤ _; rw [e, Array.size_append]; exact l) fun c hc => ?_
  rw [e, Array.toList_append, List.mem_append] at hc
  rcases hc with z | z
  · exact sOk_cps h c z
  · exact sOk_cps k c z

/-- a new list laid at p -/
theorem gr_new {F H : Hp} {p : Addr} {o : HO} (s : Same F H) (hp : H p = none) : Gr F H F (upd H p o) ∧ F p = none := by
  have fp : F p = none := by
    cases q : F p with
    | none => rfl
    | some u => have := s p u q; rw [hp] at this; cases this
  have hh : Same H (upd H p o) := fun b u q => by rw [upd_ne (ne_of_none q hp)]; exact q
  exact ⟨⟨Same.refl _, s.trans hh, hh, fun _ _ q => .inl q⟩, fp⟩

theorem fresh_tup {F H : Hp} {p : Addr} {ds : List D} {vs : List V} (s : Same F H) (hp : H p = none) (r : Reps Γ F ds vs) (hl : ds.length ≤ sizeLine) :
    ∃ F2, Gr F H F2 (upd H p (.tup vs)) ∧ Rep Γ F2 (.tup ds) (.ref p) := by
  obtain ⟨g, fp⟩ := gr_new (o := .tup vs) s hp
  have sf : Same F (upd F p (.tup vs)) := fun b u q => by rw [upd_ne (ne_of_none q fp)]; exact q
  refine ⟨upd F p (.tup vs), ⟨sf, fun b u q => ?_, g.hh, fun b u q => ?_⟩, ?_⟩
  · by_cases hb : b = p
    · subst hb; rw [upd_same] at q ⊢; exact q
    · rw [upd_ne hb] at q ⊢; exact s _ _ q
  · by_cases hb : b = p
    · subst hb; exact .inr hp
    · rw [upd_ne hb] at q; exact .inl q
  · rw [Rep]; exact ⟨p, vs, rfl, SqT.of upd_same, hl, r.mono sf⟩

/-! ### + - * // % ** -/
def dAdd : D → D → Option D
  | .int i, .int j => some (.int (i + j))
  | .str s, .str t => if s.length + t.length ≤ sizeLine then some (.str (s ++ t)) else none
  | .lst xs, .lst ys => if xs.length + ys.length ≤ sizeLine then some (.lst (xs ++ ys)) else none
  | .tup xs, .tup ys => if xs ≠ [] ∧ xs.length + ys.length ≤ sizeLine then some (.tup (xs ++ ys)) else none
  | _, _ => none
def dCat : D → D → Option D
  | .lst xs, .lst ys => if xs.length + ys.length ≤ sizeLine then some (.lst (xs ++ ys)) else none
  | _, _ => none
theorem ops_cat : OpN Γ rCat dCat := fun {F H x y v w Q d} s rx ry e k => by
  unfold dCat at e
  split at e
  · rename_i xs ys
    obtain ⟨a, vs, rfl, ha, la, ra⟩ := rx.lst s
    obtain ⟨b, ws, rfl, hb, lb, rb⟩ := ry.lst s
    split at e
    · rename_i hl
      cases e
      refine ⟨a, b, vs, ws, rfl, rfl, ha, hb, by rw [ra.length, rb.length]; exact hl, fun p hp => ?_⟩
      obtain ⟨g, fp⟩ := gr_new (o := .lst (vs ++ ws)) s hp
      exact k p F _ g fp hp ⟨vs ++ ws, upd_same, by rw [List.length_append]; exact hl, ra.append rb⟩
    · cases e
  · cases e
theorem add_rule (hk : Γ.K = X.K) : OpR X (binaryOp .Add) (fun x y H Q => rI0 (fun i j => .int (i + j)) x y H Q ∨ (fun x y H Q => (∃ i j, x = V.str i ∧ y = V.str j ∧ i.length + j.length ≤ sizeLine ∧ Q (.str (i ++ j)) H)) x y H Q ∨ rCat x y H Q ∨ rCatT Γ.K x y H Q) := by
  rw [hk]; exact op_add.or (op_add_str.or (op_cat.or op_catT))
theorem add_ops : OpS Γ (fun x y H Q => rI0 (fun i j => .int (i + j)) x y H Q ∨ (fun x y H Q => (∃ i j, x = V.str i ∧ y = V.str j ∧ i.length + j.length ≤ sizeLine ∧ Q (.str (i ++ j)) H)) x y H Q ∨ rCat x y H Q ∨ rCatT Γ.K x y H Q) dAdd := fun {F H x y v w Q d} s rx ry e k => by
  unfold dAdd at e
  split at e
  · rename_i i j; cases e
    exact .inl ⟨i, j, rx.int, ry.int, k _ F H (Gr.refl s) (by rw [Rep])⟩
  · rename_i i j
    split at e
    · rename_i hl; cases e
      obtain ⟨e1, o1⟩ := rx.str
      obtain ⟨e2, o2⟩ := ry.str
      exact .inr (.inl ⟨i, j, e1, e2, hl, k _ F H (Gr.refl s) (by rw [Rep]; exact ⟨rfl, sOk_append o1 o2 hl⟩)⟩)
    · cases e
  · rename_i xs ys
    refine .inr (.inr (.inl ?_))
    exact (OpN.s ops_cat fun x y d h => by unfold dCat at h; split at h <;> (try split at h) <;> cases h <;> rfl) s rx ry (show dCat (.lst xs) (.lst ys) = some d from e) k
  · rename_i xs ys
    split at e
    · rename_i hl; cases e
      obtain ⟨a, vs, rfl, ha, la, ra⟩ := rx.tup s
      obtain ⟨b, ws, rfl, hb, lb, rb⟩ := ry.tup s
      refine .inr (.inr (.inr ⟨a, b, vs, ws, rfl, rfl, ha, hb, fun z => ?_, by rw [ra.length, rb.length]; exact hl.2, fun z => ?_, fun z p hp => ?_⟩))
      · have := ra.length; rw [z] at this; exact hl.1 (List.length_eq_zero_iff.mp this.symm)
      · have h0 := rb.length; rw [z] at h0
        have e0 : ys = [] := List.length_eq_zero_iff.mp h0.symm
        subst e0
        rw [List.append_nil]  at k
        rcases rx with h | ⟨a', e', t⟩
        · exact k _ F H (Gr.refl s) h
        · exact t.elim
      · skip
        obtain ⟨F2, g2, r2⟩ := fresh_tup s hp (ra.append rb) (by rw [List.length_append]; exact hl.2)
        exact k _ F2 _ g2 r2
    · cases e
  · cases e
end
end Dn

/-! Den5.lean -/
namespace Dn
open PySem PySem.Spec PyProof.Rows L2

section
variable {X : Cx} {Γ : Gm} {W : WX} {pos : Pos} {a b c : Expr} {rest : List Expr}
theorem rep_int {F : Hp} {i : Int} : Rep Γ F (.int i) (.int i) := by rw [Rep]
theorem rep_bl {F : Hp} {i : Bool} : Rep Γ F (.bl i) (.bl i) := by rw [Rep]
/-- two ints -/
def dII (C : Int → Int → Bool) (g : Int → Int → Int) : D → D → Option D
  | .int i, .int j => if C i j = true then some (.int (g i j)) else none
  | _, _ => none
theorem ops_II {C : Int → Int → Bool} {C' : Int → Int → Prop} {g : Int → Int → Int} (h : ∀ i j, C i j = true → C' i j) : OpS Γ (rI C' fun i j => .int (g i j)) (dII C g) := fun {F H x y v w Q d} s rx ry e k => by
  unfold dII at e
  split at e
  · rename_i i j
    split at e
    · rename_i hc; cases e
      exact ⟨i, j, rx.int, ry.int, h i j hc, k _ F H (Gr.refl s) rep_int⟩
    · cases e
  · cases e
def dSub : D → D → Option D
  | .int i, .int j => some (.int (i - j))
  | _, _ => none
theorem ops_sub : OpS Γ (rI0 fun i j => .int (i - j)) dSub := fun {F H x y v w Q d} s rx ry e k => by
  unfold dSub at e
  split at e
  · rename_i i j; cases e
    exact ⟨i, j, rx.int, ry.int, k _ F H (Gr.refl s) rep_int⟩
  · cases e
def cMul (i j : Int) : Bool := decide (-(2 ^ 64) < i ∧ i < 2 ^ 64) || decide (-(2 ^ 64) < j ∧ j < 2 ^ 64)
def cDiv (i j : Int) : Bool := decide (0 < j) && decide (j.natAbs.log2 < 9000)
def cMod (i j : Int) : Bool := decide (0 < j)
def cPow (i j : Int) : Bool := decide (0 ≤ j) && decide (j ≤ 1000000) && decide (i.natAbs < 2 ^ 64)
/-- a list times an int -/
def dRep : D → D → Option D
  | .lst xs, .int k => if -(2 ^ 63) ≤ k ∧ k < 2 ^ 63 ∧ xs.length * k.toNat ≤ sizeLine then some (.lst (List.replicate k.toNat xs).flatten) else none
  | _, _ => none
theorem Reps.rep {F : Hp} {ds : List D} {vs : List V} (r : Reps Γ F ds vs) : ∀ k : Nat, Reps Γ F (List.replicate k ds).flatten (List.replicate k vs).flatten
  | 0 => by simp; exact .nil
  | k + 1 => by rw [List.replicate_succ, List.replicate_succ, List.flatten_cons, List.flatten_cons]; exact r.append (Reps.rep r k)
theorem ops_rep : OpN Γ rRep dRep := fun {F H x y v w Q d} s rx ry e k => by
  unfold dRep at e
  split at e
  · rename_i xs j
    obtain ⟨a, vs, rfl, ha, la, ra⟩ := rx.lst s
    split at e
    · rename_i hl
      cases e
      refine ⟨a, j, vs, rfl, ry.int, ha, hl.1, hl.2.1, by rw [ra.length]; exact hl.2.2, fun p hp => ?_⟩
      obtain ⟨g, fp⟩ := gr_new (o := .lst (List.replicate j.toNat vs).flatten) s hp
      exact k p F _ g fp hp ⟨_, upd_same, by rw [List.length_flatten, List.map_replicate, List.sum_replicate_nat, Nat.mul_comm]; exact hl.2.2, ra.rep _⟩
    · cases e
  · cases e
def dMulI : D → D → Option D := dII cMul fun i j => i * j
def dMul : D → D → Option D := fun x y => (dMulI x y).or (dRep x y)
def dFdiv : D → D → Option D := dII cDiv fun i j => i / j
def dMod : D → D → Option D := dII cMod fun i j => i % j
def dPow : D → D → Option D := dII cPow fun i j => i ^ j.toNat
variable {da db dc : Env → Res D}
theorem e_add (hk : Γ.K = X.K) (ha : PE X a (tW Γ W da)) (hb : PE X b (tW Γ W db)) : PE X (.BinOp a .Add b pos) (tE Γ W (dBin dAdd da db)) := e_bin (add_rule hk) add_ops ha hb
theorem n_cat (ha : PE X a (tW Γ W da)) (hb : PE X b (tW Γ W db)) : PE X (.BinOp a .Add b pos) (tN Γ W (dBin dCat da db)) := n_bin op_cat ops_cat ha hb
theorem e_sub (ha : PE X a (tW Γ W da)) (hb : PE X b (tW Γ W db)) : PE X (.BinOp a .Sub b pos) (tE Γ W (dBin dSub da db)) := e_bin op_sub ops_sub ha hb
theorem e_mul (ha : PE X a (tW Γ W da)) (hb : PE X b (tW Γ W db)) : PE X (.BinOp a .Mult b pos) (tE Γ W (dBin dMul da db)) :=
  e_bin (op_mul.or op_rep) (OpS.or (ops_II fun i j h => by
    unfold cMul at h; rw [Bool.or_eq_true] at h
    rcases h with h | h
    · exact .inl (of_decide_eq_true h)
    · exact .inr (of_decide_eq_true h)) (OpN.s ops_rep fun x y d h => by unfold dRep at h; split at h <;> (try split at h) <;> cases h <;> rfl)) ha hb
theorem n_rep (ha : PE X a (tW Γ W da)) (hb : PE X b (tW Γ W db)) : PE X (.BinOp a .Mult b pos) (tN Γ W (dBin dRep da db)) := n_bin op_rep ops_rep ha hb
theorem e_fdiv (ha : PE X a (tW Γ W da)) (hb : PE X b (tW Γ W db)) : PE X (.BinOp a .FloorDiv b pos) (tE Γ W (dBin dFdiv da db)) := e_bin op_fdivW (ops_II fun i j h => by
  unfold cDiv at h; rw [Bool.and_eq_true] at h; exact ⟨of_decide_eq_true h.1, of_decide_eq_true h.2⟩) ha hb
theorem e_mod (ha : PE X a (tW Γ W da)) (hb : PE X b (tW Γ W db)) : PE X (.BinOp a .Mod b pos) (tE Γ W (dBin dMod da db)) := e_bin op_mod (ops_II fun i j h => of_decide_eq_true h) ha hb
theorem e_pow (ha : PE X a (tW Γ W da)) (hb : PE X b (tW Γ W db)) : PE X (.BinOp a .Pow b pos) (tE Γ W (dBin dPow da db)) := e_bin op_pow (ops_II fun i j h => by
  unfold cPow at h; rw [Bool.and_eq_true, Bool.and_eq_true] at h; exact ⟨of_decide_eq_true h.1.1, of_decide_eq_true h.1.2, of_decide_eq_true h.2⟩) ha hb
def dNeg : D → Option D
  | .int i => some (.int (-i))
  | _ => none
theorem e_neg (ha : PE X a (tE Γ W da)) : PE X (.UnaryOp .USub a pos) (tE Γ W (dUn dNeg da)) := PE.w (pe_un un_neg ha) fun σ H Q ⟨G, env, F, er, h⟩ => by
  refine ⟨G, env, F, er, h.bind.imp fun x F1 H1 _ g1 h1 v r1 => ?_⟩
  cases x <;> first | exact h1.elim | skip
  exact ⟨_, (by rw [Rep] at r1; exact r1), h1.ok (er.gr g1) _ rep_int⟩

/-! ### comparisons -/
def dCI (p : Int → Int → Bool) : D → D → Option D
  | .int i, .int j => some (.bl (p i j))
  | _, _ => none
theorem ops_CI {p : Int → Int → Bool} : OpS Γ (rI0 fun i j => .bl (p i j)) (dCI p) := fun {F H x y v w Q d} s rx ry e k => by
  unfold dCI at e
  split at e
  · rename_i i j; cases e
    exact ⟨i, j, rx.int, ry.int, k _ F H (Gr.refl s) rep_bl⟩
  · cases e
def dLt : D → D → Option D := dCI fun i j => decide (i < j)
def dLe : D → D → Option D := dCI fun i j => decide (i ≤ j)
def dGt : D → D → Option D := dCI fun i j => decide (j < i)
def dGe : D → D → Option D := dCI fun i j => decide (j ≤ i)
theorem e_lt (ha : PE X a (tW Γ W da)) (hb : PE X b (tW Γ W db)) : PE X (.Compare a [.Lt] [b] pos) (tE Γ W (dBin dLt da db)) := e_cmp op_lt ops_CI ha hb (nomark _)
theorem e_le (ha : PE X a (tW Γ W da)) (hb : PE X b (tW Γ W db)) : PE X (.Compare a [.LtE] [b] pos) (tE Γ W (dBin dLe da db)) := e_cmp op_le ops_CI ha hb (nomark _)
theorem e_gt (ha : PE X a (tW Γ W da)) (hb : PE X b (tW Γ W db)) : PE X (.Compare a [.Gt] [b] pos) (tE Γ W (dBin dGt da db)) := e_cmp op_gt ops_CI ha hb (nomark _)
theorem e_ge (ha : PE X a (tW Γ W da)) (hb : PE X b (tW Γ W db)) : PE X (.Compare a [.GtE] [b] pos) (tE Γ W (dBin dGe da db)) := e_cmp op_ge ops_CI ha hb (nomark _)

/-! the library's data -/
mutual
def D.py : D → Option PyData
  | .non => some .none
  | .bl b => some (.bool b)
  | .int i => some (.int i)
  | .str s => some (.str s)
  | .scr ns => some (.list (ns.map PyData.int))
  | .lst ds => (pys ds).map PyData.list
  | .tup ds => (pys ds).map PyData.tuple
  | .ty _ => none
  | .cl _ => none
  | .obj _ _ => none
  | .dic _ _ => none
def pys : List D → Option (List PyData)
  | [] => some []
  | d :: ds => d.py.bind fun p => (pys ds).map fun ps => p :: ps
end
theorem lay_ints : ∀ ns : List Int, PyData.canLayAll0 (ns.map PyData.int) = true
  | [] => by simp [PyData.canLayAll0]
  | n :: ns => by rw [List.map_cons, PyData.canLayAll0, lay_ints ns, PyData.canLay0]; rfl
theorem dp_ints {K : PySem.W.Frag} {H : Hp} : ∀ ns : List Int, DpAll K H (ns.map V.int) (ns.map PyData.int)
  | [] => .nil
  | n :: ns => .cons (.int n) (dp_ints ns)
mutual
theorem dp_of {F H : Hp} (s : Same F H) : ∀ (d : D) (v : V) (p : PyData), Rep Γ F d v → d.py = some p → Dp Γ.K H v p ∧ p.canLay0 = true
  | .non, v, p, h, e => by rw [Rep] at h; simp only [D.py] at e; cases e; subst h; exact ⟨.non, by simp [PyData.canLay0]⟩
  | .bl b, v, p, h, e => by rw [Rep] at h; simp only [D.py] at e; cases e; subst h; exact ⟨.bl b, by simp [PyData.canLay0]⟩
  | .int b, v, p, h, e => by rw [Rep] at h; simp only [D.py] at e; cases e; subst h; exact ⟨.int b, by simp [PyData.canLay0]⟩
  | .str b, v, p, h, e => by rw [Rep] at h; simp only [D.py] at e; cases e; obtain ⟨h, o⟩ := h; subst h; exact ⟨.str b, by simpa [PyData.canLay0] using sOk_ok o⟩
  | .scr ns, v, p, h, e => by
    rw [Rep] at h; simp only [D.py] at e; cases e
    obtain ⟨a, rfl, l, q, _⟩ := h
    exact ⟨.lst (s.seq q) (dp_ints ns), by rw [PyData.canLay0]; exact lay_ints ns⟩
  | .lst ds, v, p, h, e => by
    rw [Rep] at h; simp only [D.py, Option.map_eq_some_iff] at e
    obtain ⟨ps, e, rfl⟩ := e
    obtain ⟨a, vs, rfl, q, l, r⟩ := h
    obtain ⟨h1, h2⟩ := dps_of s ds vs ps r e
    exact ⟨.lst (SqL.of (s _ _ q)) h1, by simpa [PyData.canLay0] using h2⟩
  | .tup ds, v, p, h, e => by
    rw [Rep] at h; simp only [D.py, Option.map_eq_some_iff] at e
    obtain ⟨ps, e, rfl⟩ := e
    obtain ⟨a, vs, rfl, q, l, r⟩ := h
    obtain ⟨h1, h2⟩ := dps_of s ds vs ps r e
    exact ⟨.tup (Same.sqt s q) h1, by simpa [PyData.canLay0] using h2⟩
  | .ty _, _, _, _, e => by simp [D.py] at e
  | .cl _, _, _, _, e => by simp [D.py] at e
  | .obj _ _, _, _, _, e => by simp [D.py] at e
  | .dic _ _, _, _, _, e => by simp [D.py] at e
theorem dps_of {F H : Hp} (s : Same F H) : ∀ (ds : List D) (vs : List V) (ps : List PyData), Reps Γ F ds vs → pys ds = some ps → DpAll Γ.K H vs ps ∧ PyData.canLayAll0 ps = true
  | [], vs, ps, h, e => by rw [h.nil_inv]; simp only [pys] at e; cases e; exact ⟨.nil, by simp [PyData.canLayAll0]⟩
  | d :: ds, vs, ps, h, e => by
    obtain ⟨v, r, rfl, h1, h2⟩ := h.cons_inv
    simp only [pys, Option.bind_eq_some_iff, Option.map_eq_some_iff] at e
    obtain ⟨p, e1, ps', e2, rfl⟩ := e
    obtain ⟨a1, a2⟩ := dp_of s d v p h1 e1
    obtain ⟨b1, b2⟩ := dps_of s ds r ps' h2 e2
    exact ⟨.cons a1 b1, by simp [PyData.canLayAll0, a2, b2]⟩
end
theorem dp_ofT {F H : Hp} (s : Same F H) {d : D} {v : V} {p : PyData} (h : RepT Γ F H d v) (e : d.py = some p) : Dp Γ.K H v p ∧ p.canLay0 = true := by
  rcases h with h | ⟨a, rfl, t⟩
  · exact dp_of s d v p h e
  · cases d <;> first | exact t.elim | skip
    · rename_i ds
      simp only [D.py, Option.map_eq_some_iff] at e
      obtain ⟨ps, e, rfl⟩ := e
      obtain ⟨vs, q, l, r⟩ := t
      obtain ⟨h1, h2⟩ := dps_of s ds vs ps r e
      exact ⟨.lst (SqL.of q) h1, by simpa [PyData.canLay0] using h2⟩
    · simp [D.py] at e
    · simp [D.py] at e
def rEqM (K : PySem.W.Frag) : R2 := fun x y H Q => ∃ d e, Dp K H x d ∧ Dp K H y e ∧ d.canLay0 = true ∧ e.canLay0 = true ∧ min d.depth e.depth ≤ 60 ∧ Q (.bl (PyData.eqv d e)) H
def rNeM (K : PySem.W.Frag) : R2 := fun x y H Q => ∃ d e, Dp K H x d ∧ Dp K H y e ∧ d.canLay0 = true ∧ e.canLay0 = true ∧ min d.depth e.depth ≤ 60 ∧ Q (.bl (!PyData.eqv d e)) H
theorem op_eqM (hu : X.A.units + 64 < cLine) : OpR X (compareOp .Eq) (rEqM X.K) := by
  intro pins s σ H x y v u Q I rx ry h
  obtain ⟨d, e, hd, he, sd, se, hm, q⟩ := h
  obtain ⟨as, r1⟩ := Dp.reads I d x v hd rx
  obtain ⟨bs, r2⟩ := Dp.reads I e y u he ry
  exact SeqAt.compareEq_reads r1 r2 sd se (by omega) ⟨.bl _, H, I, rfl, q⟩
theorem op_neM (hu : X.A.units + 64 < cLine) : OpR X (compareOp .NotEq) (rNeM X.K) := by
  intro pins s σ H x y v u Q I rx ry h
  obtain ⟨d, e, hd, he, sd, se, hm, q⟩ := h
  obtain ⟨as, r1⟩ := Dp.reads I d x v hd rx
  obtain ⟨bs, r2⟩ := Dp.reads I e y u he ry
  exact SeqAt.compareNe_reads r1 r2 sd se (by omega) ⟨.bl _, H, I, rfl, q⟩
def dEqB (x y : D) : Option Bool := x.py.bind fun p => y.py.bind fun q => if min p.depth q.depth ≤ 60 then some (PyData.eqv p q) else none
def dEq (x y : D) : Option D := (dEqB x y).map D.bl
def dNe (x y : D) : Option D := (dEqB x y).map fun k => D.bl (!k)
theorem dEqB_some {x y : D} {k : Bool} (h : dEqB x y = some k) : ∃ p q, x.py = some p ∧ y.py = some q ∧ min p.depth q.depth ≤ 60 ∧ PyData.eqv p q = k := by
  simp only [dEqB, Option.bind_eq_some_iff] at h
  obtain ⟨p, e1, q, e2, h⟩ := h
  split at h
  · rename_i hm; cases h; exact ⟨p, q, e1, e2, hm, rfl⟩
  · cases h
theorem ops_eq : OpS Γ (rEqM Γ.K) dEq := fun {F H x y v w Q d} s rx ry e k => by
  simp only [dEq, Option.map_eq_some_iff] at e
  obtain ⟨b, e, rfl⟩ := e
  obtain ⟨p, q, e1, e2, hm, rfl⟩ := dEqB_some e
  obtain ⟨a1, a2⟩ := dp_ofT s rx e1
  obtain ⟨b1, b2⟩ := dp_ofT s ry e2
  exact ⟨p, q, a1, b1, a2, b2, hm, k _ F H (Gr.refl s) rep_bl⟩
theorem ops_ne : OpS Γ (rNeM Γ.K) dNe := fun {F H x y v w Q d} s rx ry e k => by
  simp only [dNe, Option.map_eq_some_iff] at e
  obtain ⟨b, e, rfl⟩ := e
  obtain ⟨p, q, e1, e2, hm, rfl⟩ := dEqB_some e
  obtain ⟨a1, a2⟩ := dp_ofT s rx e1
  obtain ⟨b1, b2⟩ := dp_ofT s ry e2
  exact ⟨p, q, a1, b1, a2, b2, hm, k _ F H (Gr.refl s) rep_bl⟩
theorem e_eq (hk : Γ.K = X.K) (hu : X.A.units + 64 < cLine) (ha : PE X a (tW Γ W da)) (hb : PE X b (tW Γ W db)) : PE X (.Compare a [.Eq] [b] pos) (tE Γ W (dBin dEq da db)) := e_cmp (r := rEqM Γ.K) (by rw [hk]; exact op_eqM hu) ops_eq ha hb (nomark _)
theorem e_ne (hk : Γ.K = X.K) (hu : X.A.units + 64 < cLine) (ha : PE X a (tW Γ W da)) (hb : PE X b (tW Γ W db)) : PE X (.Compare a [.NotEq] [b] pos) (tE Γ W (dBin dNe da db)) := e_cmp (r := rNeM Γ.K) (by rw [hk]; exact op_neM hu) ops_ne ha hb (nomark _)
/-- is, of None or a truth -/
def D.isNon : D → Bool
  | .non => true
  | _ => false
def D.isBl (k : Bool) : D → Bool
  | .bl j => j == k
  | _ => false
theorem RepT.isNon {F H : Hp} : ∀ {d : D} {v : V}, RepT Γ F H d v → decide (v = .non) = d.isNon
  | d, v, .inr ⟨a, e, t⟩ => by subst e; cases d <;> first | exact t.elim | exact decide_eq_false (fun h => by cases h)
  | d, v, .inl h => by
    cases d <;> rw [Rep] at h <;> first
      | (subst h; rfl)
      | (obtain ⟨a, rfl, _⟩ := h; rfl)
      | (obtain ⟨a, _, rfl, _⟩ := h; rfl)
      | (obtain ⟨a, _, _, rfl, _⟩ := h; rfl)
      | (obtain ⟨rfl, _⟩ := h; rfl)
theorem RepT.isBl {F H : Hp} {k : Bool} : ∀ {d : D} {v : V}, RepT Γ F H d v → decide (v = .bl k) = d.isBl k
  | d, v, .inr ⟨a, e, t⟩ => by subst e; cases d <;> first | exact t.elim | exact decide_eq_false (fun h => by cases h)
  | d, v, .inl h => by
    cases d <;> rw [Rep] at h <;> first
      | (subst h; simp [D.isBl]; done)
      | (subst h; rename_i j; cases j <;> cases k <;> rfl)
      | (obtain ⟨a, rfl, _⟩ := h; rfl)
      | (obtain ⟨a, _, rfl, _⟩ := h; rfl)
      | (obtain ⟨a, _, _, rfl, _⟩ := h; rfl)
      | (obtain ⟨rfl, _⟩ := h; rfl)
theorem op_isC : OpR X (compareOp .Is) (fun x y H Q => ∃ k, y = .bl k ∧ Q (.bl (decide (x = .bl k))) H) := by
  intro pins s σ H x y v u Q I rx ry h
  obtain ⟨k, rfl, q⟩ := h
  cases (show u = Value.bool k from ry)
  cases x with
  | non => cases (show v = Value.none from rx); exact wpAny_is_plain rfl ⟨.bl _, H, I, rfl, q⟩
  | bl j => cases (show v = Value.bool j from rx); exact wpAny_is_plain rfl ⟨.bl _, H, I, by show Value.bool _ = Value.bool _; cases j <;> cases k <;> rfl, q⟩
  | int i => obtain ⟨t, rfl⟩ := rx; exact wpAny_is_plain rfl ⟨.bl _, H, I, rfl, q⟩
  | str i => obtain ⟨t, rfl⟩ := rx; exact wpAny_is_plain rfl ⟨.bl _, H, I, rfl, q⟩
  | byt i => obtain ⟨t, rfl⟩ := rx; exact wpAny_is_plain rfl ⟨.bl _, H, I, rfl, q⟩
  | flt i => obtain ⟨t, rfl⟩ := rx; exact wpAny_is_plain rfl ⟨.bl _, H, I, rfl, q⟩
  | ref i => cases (show v = Value.ref i from rx); exact wpAny_is_plain rfl ⟨.bl _, H, I, rfl, q⟩
  | ty i => cases (show v = Value.type i from rx); exact wpAny_is_plain rfl ⟨.bl _, H, I, rfl, q⟩
theorem op_notC : OpR X (compareOp .IsNot) (fun x y H Q => ∃ k, y = .bl k ∧ Q (.bl (!decide (x = .bl k))) H) := by
  intro pins s σ H x y v u Q I rx ry h
  obtain ⟨k, rfl, q⟩ := h
  cases (show u = Value.bool k from ry)
  cases x with
  | non => cases (show v = Value.none from rx); exact wpAny_isNot_plain rfl ⟨.bl _, H, I, rfl, q⟩
  | bl j => cases (show v = Value.bool j from rx); exact wpAny_isNot_plain rfl ⟨.bl _, H, I, by show Value.bool _ = Value.bool _; cases j <;> cases k <;> rfl, q⟩
  | int i => obtain ⟨t, rfl⟩ := rx; exact wpAny_isNot_plain rfl ⟨.bl _, H, I, rfl, q⟩
  | str i => obtain ⟨t, rfl⟩ := rx; exact wpAny_isNot_plain rfl ⟨.bl _, H, I, rfl, q⟩
  | byt i => obtain ⟨t, rfl⟩ := rx; exact wpAny_isNot_plain rfl ⟨.bl _, H, I, rfl, q⟩
  | flt i => obtain ⟨t, rfl⟩ := rx; exact wpAny_isNot_plain rfl ⟨.bl _, H, I, rfl, q⟩
  | ref i => cases (show v = Value.ref i from rx); exact wpAny_isNot_plain rfl ⟨.bl _, H, I, rfl, q⟩
  | ty i => cases (show v = Value.type i from rx); exact wpAny_isNot_plain rfl ⟨.bl _, H, I, rfl, q⟩
def dIs : D → D → Option D
  | x, .bl k => some (.bl (x.isBl k))
  | x, .non => some (.bl x.isNon)
  | _, _ => none
def dIsNot : D → D → Option D
  | x, .bl k => some (.bl (!x.isBl k))
  | x, .non => some (.bl (!x.isNon))
  | _, _ => none
theorem e_is (ha : PE X a (tW Γ W da)) (hb : PE X b (tW Γ W db)) : PE X (.Compare a [.Is] [b] pos) (tE Γ W (dBin dIs da db)) := e_cmp (op_isC.or op_isN) (fun {F H x y v w Q d} s rx ry e k => by
  unfold dIs at e
  split at e
  · rename_i j; cases e
    exact .inl ⟨j, ry.bl, by rw [rx.isBl]; exact k _ F H (Gr.refl s) rep_bl⟩
  · cases e
    exact .inr ⟨ry.non, by rw [rx.isNon]; exact k _ F H (Gr.refl s) rep_bl⟩
  · cases e) ha hb (nomark _)
theorem e_isnot (ha : PE X a (tW Γ W da)) (hb : PE X b (tW Γ W db)) : PE X (.Compare a [.IsNot] [b] pos) (tE Γ W (dBin dIsNot da db)) := e_cmp (op_notC.or op_notN) (fun {F H x y v w Q d} s rx ry e k => by
  unfold dIsNot at e
  split at e
  · rename_i j; cases e
    exact .inl ⟨j, ry.bl, by rw [rx.isBl]; exact k _ F H (Gr.refl s) rep_bl⟩
  · cases e
    exact .inr ⟨ry.non, by rw [rx.isNon]; exact k _ F H (Gr.refl s) rep_bl⟩
  · cases e) ha hb (nomark _)
end
end Dn

/-! Den6.lean -/
namespace Dn
open PySem PySem.Spec PyProof.Rows L2

/-! ### tests -/
section
variable {X : Cx} {Γ : Gm} {W : WX} {pos : Pos} {a b c : Expr} {rest : List Expr} {da db dc : Env → Res D} {ta tb : Env → Res Bool}
def asB : D → Res Bool
  | .bl k => .ok k
  | _ => .err
def dT (den : Env → Res D) : Env → Res Bool := fun env => (den env).bind asB
/-- a bool comparison as a test -/
theorem t_cmp {op : CmpOp} {r : R2} {f : D → D → Option D} (ho : OpR X (compareOp op) r) (hr : OpS Γ r f) (ha : PE X a (tW Γ W da)) (hb : PE X b (tW Γ W db)) (hm : behindInMarks op b = false) : PT X (.Compare a [op] [b] pos) (tT Γ W (dT (dBin f da db))) :=
  PT.w (pt_cmpR ho ha hb hm) fun σ H Q ⟨G, env, F, er, h⟩ => by
  refine bin_s (f := f) hr ⟨G, env, F, er, h.bind.imp fun x F1 H1 z0 g1 h1 v r1 => ?_⟩
  cases x <;> first | exact h1.elim | skip
  rw [Rep] at r1
  exact ⟨_, r1, h1.ok (er.gr g1)⟩
theorem t_lt (ha : PE X a (tW Γ W da)) (hb : PE X b (tW Γ W db)) : PT X (.Compare a [.Lt] [b] pos) (tT Γ W (dT (dBin dLt da db))) := t_cmp op_lt ops_CI ha hb (nomark _)
theorem t_le (ha : PE X a (tW Γ W da)) (hb : PE X b (tW Γ W db)) : PT X (.Compare a [.LtE] [b] pos) (tT Γ W (dT (dBin dLe da db))) := t_cmp op_le ops_CI ha hb (nomark _)
theorem t_gt (ha : PE X a (tW Γ W da)) (hb : PE X b (tW Γ W db)) : PT X (.Compare a [.Gt] [b] pos) (tT Γ W (dT (dBin dGt da db))) := t_cmp op_gt ops_CI ha hb (nomark _)
theorem t_ge (ha : PE X a (tW Γ W da)) (hb : PE X b (tW Γ W db)) : PT X (.Compare a [.GtE] [b] pos) (tT Γ W (dT (dBin dGe da db))) := t_cmp op_ge ops_CI ha hb (nomark _)
theorem t_eq (hk : Γ.K = X.K) (hu : X.A.units + 64 < cLine) (ha : PE X a (tW Γ W da)) (hb : PE X b (tW Γ W db)) : PT X (.Compare a [.Eq] [b] pos) (tT Γ W (dT (dBin dEq da db))) := t_cmp (r := rEqM Γ.K) (by rw [hk]; exact op_eqM hu) ops_eq ha hb (nomark _)
theorem t_ne (hk : Γ.K = X.K) (hu : X.A.units + 64 < cLine) (ha : PE X a (tW Γ W da)) (hb : PE X b (tW Γ W db)) : PT X (.Compare a [.NotEq] [b] pos) (tT Γ W (dT (dBin dNe da db))) := t_cmp (r := rNeM Γ.K) (by rw [hk]; exact op_neM hu) ops_ne ha hb (nomark _)
theorem ops_is : OpS Γ (fun x y H Q => (fun x y H Q => ∃ k, y = V.bl k ∧ Q (.bl (decide (x = .bl k))) H) x y H Q ∨ (fun x y H Q => y = V.non ∧ Q (.bl (decide (x = .non))) H) x y H Q) dIs := fun {F H x y v w Q d} s rx ry e k => by
  unfold dIs at e
  split at e
  · rename_i j; cases e
    exact .inl ⟨j, ry.bl, by rw [rx.isBl]; exact k _ F H (Gr.refl s) rep_bl⟩
  · cases e
    exact .inr ⟨ry.non, by rw [rx.isNon]; exact k _ F H (Gr.refl s) rep_bl⟩
  · cases e
theorem ops_isnot : OpS Γ (fun x y H Q => (fun x y H Q => ∃ k, y = V.bl k ∧ Q (.bl (!decide (x = .bl k))) H) x y H Q ∨ (fun x y H Q => y = V.non ∧ Q (.bl (!decide (x = .non))) H) x y H Q) dIsNot := fun {F H x y v w Q d} s rx ry e k => by
  unfold dIsNot at e
  split at e
  · rename_i j; cases e
    exact .inl ⟨j, ry.bl, by rw [rx.isBl]; exact k _ F H (Gr.refl s) rep_bl⟩
  · cases e
    exact .inr ⟨ry.non, by rw [rx.isNon]; exact k _ F H (Gr.refl s) rep_bl⟩
  · cases e
theorem t_is (ha : PE X a (tW Γ W da)) (hb : PE X b (tW Γ W db)) : PT X (.Compare a [.Is] [b] pos) (tT Γ W (dT (dBin dIs da db))) := t_cmp (op_isC.or op_isN) ops_is ha hb (nomark _)
theorem t_isnot (ha : PE X a (tW Γ W da)) (hb : PE X b (tW Γ W db)) : PT X (.Compare a [.IsNot] [b] pos) (tT Γ W (dT (dBin dIsNot da db))) := t_cmp (op_notC.or op_notN) ops_isnot ha hb (nomark _)
/-- truth -/
def tru : D → Option Bool
  | .non => some false
  | .bl b => some b
  | .int i => some (i != 0)
  | .str s => some ((s.length : Int) != 0)
  | .lst ds => some (!ds.isEmpty)
  | .scr ns => some (!ns.isEmpty)
  | .tup ds => some (!ds.isEmpty)
  | _ => none
def dTru (den : Env → Res D) : Env → Res Bool := fun env => (den env).bind fun d => op? (tru d)
theorem isEmpty_reps {F : Hp} {ds : List D} {vs : List V} (r : Reps Γ F ds vs) : ds.isEmpty = vs.isEmpty := by
  have := r.length
  cases ds <;> cases vs <;> simp_all
theorem t_tru (hk : Γ.K = X.K) (ha : PE X a (tW Γ W da)) (he : ∀ whole, isTrue a X.env whole = (do let v ← whole; standAt a.pos; holding [v] (truthy v)) := by intro _; rfl) : PT X a (tT Γ W (dTru da)) :=
  PT.w (pt_truth ha he) fun σ H Q ⟨G, env, F, er, h⟩ => by
  refine ⟨G, env, F, er, h.bind.imp fun x F1 H1 z0 g1 h1 v r1 => ?_⟩
  have er1 := er.gr g1
  have s1 := er1.fh
  cases x with
  | non => refine ⟨false, ?_, h1.ok er1⟩; rw [r1.non]; exact rfl
  | bl k => refine ⟨k, ?_, h1.ok er1⟩; rw [r1.bl]; exact rfl
  | int i => refine ⟨i != 0, ?_, h1.ok er1⟩; rw [r1.int]; exact rfl
  | str s => refine ⟨_, ?_, h1.ok er1⟩; obtain ⟨e, o⟩ := r1.str; rw [e]; exact ⟨sOk_len o, rfl⟩
  | lst ds =>
    obtain ⟨p, vs, rfl, q, l, r⟩ := r1.lst s1
    exact ⟨_, .inl ⟨vs, by rw [← hk]; exact SqL.of q, by rw [isEmpty_reps r]⟩, h1.ok er1⟩
  | scr ns =>
    obtain ⟨p, rfl, l, q⟩ := r1.scr s1
    exact ⟨_, .inl ⟨_, by rw [← hk]; exact q, by cases ns <;> rfl⟩, h1.ok er1⟩
  | tup ds =>
    obtain ⟨p, vs, rfl, q, l, r⟩ := r1.tup s1
    exact ⟨_, .inr (.inl ⟨vs, by rw [← hk]; exact q, by rw [isEmpty_reps r]⟩), h1.ok er1⟩
  | _ => exact h1.elim
def dAnd (a b : Env → Res Bool) : Env → Res Bool := fun env => (a env).bind fun k => match k with | true => b env | false => .ok false
def dOr (a b : Env → Res Bool) : Env → Res Bool := fun env => (a env).bind fun k => match k with | true => .ok true | false => b env
def dNot (a : Env → Res Bool) : Env → Res Bool := fun env => (a env).bind fun k => .ok (!k)
theorem PW.w {e : Expr} {t t' : TT} (h : PW X e t) (i : ∀ σ H Q, t' σ H Q → t σ H Q) : PW X e t' := ⟨fun wh pins s σ H Q I q => h.run wh pins s σ H Q I (i σ H Q q)⟩
theorem t_and1 (ha : PT X a (tT Γ W ta)) : PW X (.BoolOp .And [a] pos) (tT Γ W ta) := pw_and1 ha
theorem t_or1 (ha : PT X a (tT Γ W ta)) : PW X (.BoolOp .Or [a] pos) (tT Γ W ta) := pw_or1 ha
theorem t_and (ha : PT X a (tT Γ W ta)) (hb : PW X (.BoolOp .And (b :: rest) pos) (tT Γ W tb)) : PW X (.BoolOp .And (a :: b :: rest) pos) (tT Γ W (dAnd ta tb)) := PW.w (pw_and ha hb) fun σ H Q ⟨G, env, F, er, h⟩ => by
  refine ⟨G, env, F, er, h.bind.imp fun k F1 H1 _ g1 h1 => ?_⟩
  show ite _ _ _
  cases k with
  | true => rw [if_pos rfl]; exact ⟨G, env, F1, er.gr g1, h1⟩
  | false => rw [if_neg Bool.false_ne_true]; exact h1.ok (er.gr g1)
theorem t_or (ha : PT X a (tT Γ W ta)) (hb : PW X (.BoolOp .Or (b :: rest) pos) (tT Γ W tb)) : PW X (.BoolOp .Or (a :: b :: rest) pos) (tT Γ W (dOr ta tb)) := PW.w (pw_or ha hb) fun σ H Q ⟨G, env, F, er, h⟩ => by
  refine ⟨G, env, F, er, h.bind.imp fun k F1 H1 _ g1 h1 => ?_⟩
  show ite _ _ _
  cases k with
  | true => rw [if_pos rfl]; exact h1.ok (er.gr g1)
  | false => rw [if_neg Bool.false_ne_true]; exact ⟨G, env, F1, er.gr g1, h1⟩
theorem t_not (ha : PT X a (tT Γ W ta)) : PT X (.UnaryOp .Not a pos) (tT Γ W (dNot ta)) := PT.w (pt_not ha) fun σ H Q ⟨G, env, F, er, h⟩ =>
  ⟨G, env, F, er, h.bind.imp fun k F1 H1 _ g1 h1 => post.ok (W := W) (er.gr g1) h1⟩
/-- and, or, not as values -/
def dAndV (a b : Env → Res D) : Env → Res D := fun env => (a env).bind fun x => match x with | .bl true => b env | .bl false => .ok (.bl false) | _ => .err
def dOrV (a b : Env → Res D) : Env → Res D := fun env => (a env).bind fun x => match x with | .bl true => .ok (.bl true) | .bl false => b env | _ => .err
def dNotV (a : Env → Res D) : Env → Res D := fun env => (a env).bind fun x => match x with | .bl k => .ok (.bl (!k)) | _ => .err
theorem e_one {op} (h : PE X a (tE Γ W da)) : PE X (.BoolOp op [a] pos) (tE Γ W da) := pe_one h
theorem e_and (ha : PE X a (tE Γ W da)) (hb : PE X (.BoolOp .And (b :: rest) pos) (tE Γ W db)) : PE X (.BoolOp .And (a :: b :: rest) pos) (tE Γ W (dAndV da db)) := PE.w (pe_and ha hb) fun σ H Q ⟨G, env, F, er, h⟩ => by
  refine ⟨G, env, F, er, h.bind.imp fun x F1 H1 z0 g1 h1 v r1 => ?_⟩
  cases x <;> first | exact h1.elim | skip
  rename_i k
  rw [Rep] at r1
  refine ⟨k, r1, ?_⟩
  show ite _ _ _
  cases k with
  | true => rw [if_pos rfl]; exact ⟨G, env, F1, er.gr g1, h1⟩
  | false => rw [if_neg Bool.false_ne_true]; exact h1.ok (er.gr g1) _ rep_bl
theorem e_or (ha : PE X a (tE Γ W da)) (hb : PE X (.BoolOp .Or (b :: rest) pos) (tE Γ W db)) : PE X (.BoolOp .Or (a :: b :: rest) pos) (tE Γ W (dOrV da db)) := PE.w (pe_or ha hb) fun σ H Q ⟨G, env, F, er, h⟩ => by
  refine ⟨G, env, F, er, h.bind.imp fun x F1 H1 z0 g1 h1 v r1 => ?_⟩
  cases x <;> first | exact h1.elim | skip
  rename_i k
  rw [Rep] at r1
  refine ⟨k, r1, ?_⟩
  show ite _ _ _
  cases k with
  | true => rw [if_pos rfl]; exact h1.ok (er.gr g1) _ rep_bl
  | false => rw [if_neg Bool.false_ne_true]; exact ⟨G, env, F1, er.gr g1, h1⟩
theorem e_not (ha : PE X a (tE Γ W da)) : PE X (.UnaryOp .Not a pos) (tE Γ W (dNotV da)) := PE.w (pe_not ha) fun σ H Q ⟨G, env, F, er, h⟩ => by
  refine ⟨G, env, F, er, h.bind.imp fun x F1 H1 z0 g1 h1 v r1 => ?_⟩
  cases x <;> first | exact h1.elim | skip
  rename_i k
  rw [Rep] at r1
  exact ⟨k, r1, h1.ok (er.gr g1) _ rep_bl⟩
def dIfE (t : Env → Res Bool) (a b : Env → Res D) : Env → Res D := fun env => (t env).bind fun k => match k with | true => a env | false => b env
theorem e_if (hc : PT X c (tT Γ W ta)) (ha : PE X a (tE Γ W da)) (hb : PE X b (tE Γ W db)) : PE X (.IfExp c a b pos) (tE Γ W (dIfE ta da db)) := PE.w (pe_ifExp hc ha hb) fun σ H Q ⟨G, env, F, er, h⟩ => by
  refine ⟨G, env, F, er, h.bind.imp fun k F1 H1 _ g1 h1 => ?_⟩
  show ite _ _ _
  cases k with
  | true => rw [if_pos rfl]; exact ⟨G, env, F1, er.gr g1, h1⟩
  | false => rw [if_neg Bool.false_ne_true]; exact ⟨G, env, F1, er.gr g1, h1⟩

/-! ### displays -/
variable {es : List Expr} {dl : Env → Res (List D)}
def dLst (l : Env → Res (List D)) : Env → Res D := fun env => (l env).bind fun ds => if ds.length ≤ sizeLine then .ok (.lst ds) else .err
def dTup (l : Env → Res (List D)) : Env → Res D := fun env => (l env).bind fun ds => if ds.length ≤ sizeLine then .ok (.tup ds) else .err
theorem gr_none {F H F1 H1 : Hp} {p : Addr} (g : Gr F H F1 H1) (hp : H1 p = none) : H p = none := by
  cases q : H p with
  | none => rfl
  | some o => have := g.hh p o q; rw [hp] at this; cases this
theorem n_lst (h : PA X es (tA Γ W dl)) : PE X (.List es pos) (tN Γ W (dLst dl)) := PE.w (pe_lst h) fun σ H Q ⟨G, env, F, er, h⟩ => by
  refine ⟨G, env, F, er, h.bind.imp fun ds F1 H1 _ g1 h1 vs r1 => ?_⟩
  split at h1
  · rename_i hl
    refine ⟨by rw [r1.length]; exact hl, fun p hp => ?_⟩
    obtain ⟨g, fp⟩ := gr_new (o := .lst vs) (er.gr g1).fh hp
    exact h1 F1 _ g p (gr_none g1 hp) fp ⟨vs, upd_same, hl, r1⟩
  · exact h1.elim
theorem flat_lst {dl : Env → Res (List D)} : ∀ env d, dLst dl env = .ok d → flat d = true := fun env d h => by
  unfold dLst at h
  cases z : dl env with
  | ok ds => rw [z] at h; simp only [Res.bind_ok] at h; split at h <;> cases h; rfl
  | exc c fs => rw [z] at h; cases h
  | err => rw [z] at h; cases h
theorem e_lst (h : PA X es (tA Γ W dl)) : PE X (.List es pos) (tE Γ W (dLst dl)) := e_n (n_lst h) flat_lst
theorem e_tup {k : Nat} (h : PA X es (tA Γ W dl)) : PE X (.Tuple es k pos) (tE Γ W (dTup dl)) := PE.w (pe_tup h) fun σ H Q ⟨G, env, F, er, h⟩ => by
  refine ⟨G, env, F, er, h.bind.imp fun ds F1 H1 _ g1 h1 vs r1 => ?_⟩
  split at h1
  · rename_i hl
    refine ⟨by rw [r1.length]; exact hl, fun p hp => ?_⟩
    obtain ⟨F2, g2, r2⟩ := fresh_tup (er.gr g1).fh hp r1 hl
    exact h1 F2 _ g2 _ r2
  · exact h1.elim

/-! ### x[i] -/
def at? (ds : List D) (i : Int) : Option D := atI ds i
theorem atI_reps {F : Hp} {ds : List D} {vs : List V} {i : Int} {d : D} (r : Reps Γ F ds vs) (h : atI ds i = some d) : ∃ v, atI vs i = some v ∧ Rep Γ F d v := by
  unfold atI at h ⊢
  rw [r.length]
  cases z : ixN ds.length i with
  | none => rw [z] at h; cases h
  | some j =>
    rw [z] at h
    obtain ⟨v, a, b⟩ := r.get (i := j) h
    exact ⟨v, a, b⟩
def dIxV : D → D → Option D
  | .lst ds, .int i => atI ds i
  | .tup ds, .int i => atI ds i
  | .scr ns, .int i => (atI ns i).map D.int
  | .str s, .int i => (atI s.cps.toList i).map fun c => .str ⟨#[c]⟩
  | _, _ => none
theorem atI_map {α β : Type} (f : α → β) (xs : List α) (i : Int) : atI (xs.map f) i = (atI xs i).map f := by
  unfold atI
  rw [List.length_map]
  cases ixN xs.length i with
  | none => rfl
  | some j => simp
theorem ops_ix : OpS Γ (rIx Γ.K) dIxV := fun {F H x y v w Q d} s rx ry e k => by
  unfold dIxV at e
  split at e
  · rename_i ds i
    obtain ⟨a, vs, rfl, q, l, r⟩ := rx.lst s
    obtain ⟨u, hu, ru⟩ := atI_reps r e
    exact .inl ⟨a, vs, i, u, rfl, ry.int, SqL.of q, hu, k _ F H (Gr.refl s) ru⟩
  · rename_i ds i
    obtain ⟨a, vs, rfl, q, l, r⟩ := rx.tup s
    obtain ⟨u, hu, ru⟩ := atI_reps r e
    exact .inr (.inl ⟨a, vs, i, u, rfl, ry.int, q, hu, k _ F H (Gr.refl s) ru⟩)
  · rename_i ns i
    obtain ⟨a, rfl, l, q⟩ := rx.scr s
    simp only [Option.map_eq_some_iff] at e
    obtain ⟨n, e, rfl⟩ := e
    exact .inl ⟨a, _, i, .int n, rfl, ry.int, q, by rw [atI_map, e]; rfl, k _ F H (Gr.refl s) rep_int⟩
  · rename_i z i
    obtain ⟨e1, o⟩ := rx.str
    simp only [Option.map_eq_some_iff] at e
    obtain ⟨c, e, rfl⟩ := e
    refine .inr (.inr ⟨z, i, c, e1, ry.int, sOk_len o, e, k _ F H (Gr.refl s) ?_⟩)
    rw [Rep]
    refine ⟨rfl, sOk_mk (by show 1 ≤ sizeLine; decide) fun x hx => ?_⟩
    have hx : x = c := by simpa using hx
    subst hx
    unfold atI at e
    cases z2 : ixN z.cps.toList.length i with
    | none => rw [z2] at e; cases e
    | some j =>
      rw [z2] at e
      exact sOk_cps o _ (List.mem_of_getElem? e)
  · cases e
theorem e_ix (hk : Γ.K = X.K) (ha : PE X a (tW Γ W da)) (hb : PE X b (tW Γ W db)) (hs : PlainIx b := by exact fun _ _ => rfl) : PE X (.Subscript a b pos) (tE Γ W (dBin dIxV da db)) :=
  PE.w (pe_ix (r := rIx Γ.K) (by rw [hk]; exact ix_seq) ha hb hs) fun σ H Q h => bin_s ops_ix h

/-! ### slices -/
def dPart (den : Env → Res D) : Env → Res (Option Int) := fun env => (den env).bind fun d => match d with | .int i => .ok (some i) | _ => .err
def dNoP : Env → Res (Option Int) := fun _ => .ok none
def tO (Γ : Gm) (W : WX) (den : Env → Res (Option Int)) : TO := fun σ H Q => ∃ G env F, ER Γ G env σ F H ∧ post Γ W σ F H (den env) (fun o _ H' => Q o H')
theorem PO.w {e : Option Expr} {t t' : TO} (h : PO X e t) (i : ∀ σ H Q, t' σ H Q → t σ H Q) : PO X e t' := ⟨fun pins s σ H Q I q => h.run pins s σ H Q I (i σ H Q q)⟩
theorem o_none : PO X none (tO Γ W dNoP) := PO.w po_none fun σ H Q ⟨G, env, F, er, h⟩ => h.ok er
theorem o_some (h : PE X a (tE Γ W da)) : PO X (some a) (tO Γ W (dPart da)) := PO.w (po_some h) fun σ H Q ⟨G, env, F, er, h⟩ => by
  refine ⟨G, env, F, er, h.bind.imp fun d F1 H1 z0 g1 h1 v r1 => ?_⟩
  cases d <;> first | exact h1.elim | skip
  rw [Rep] at r1
  exact ⟨_, r1, h1.ok (er.gr g1)⟩
def cutD {α : Type} (xs : List α) (lo hi : Option Int) : List α := (xs.drop (HT.sIx xs.length 0 lo)).take (HT.sIx xs.length xs.length hi - HT.sIx xs.length 0 lo)
theorem cut_reps {F : Hp} {ds : List D} {vs : List V} {lo hi : Option Int} (r : Reps Γ F ds vs) : Reps Γ F (cutD ds lo hi) (cutV vs lo hi) := by
  unfold cutD cutV
  rw [r.length]
  exact (r.drop _).take _
theorem cutD_length {α : Type} (xs : List α) (lo hi : Option Int) : (cutD xs lo hi).length ≤ xs.length := by
  unfold cutD
  rw [List.length_take, List.length_drop]
  omega
/-- a list's slice -/
def dSlL (d : D) (lo hi : Option Int) : Option D := match d with
  | .lst ds => some (.lst (cutD ds lo hi))
  | .scr ns => some (.lst ((cutD ns lo hi).map D.int))
  | _ => none
def dSl (d : D) (lo hi : Option Int) : Option D := match d with
  | .lst ds => some (.lst (cutD ds lo hi))
  | .scr ns => some (.lst ((cutD ns lo hi).map D.int))
  | .str z => some (.str (cutS z lo hi))
  | .tup ds => if HT.sIx ds.length 0 lo = 0 ∧ HT.sIx ds.length ds.length hi = ds.length then none else some (.tup (cutD ds lo hi))
  | _ => none
def dSlice (f : D → Option Int → Option Int → Option D) (a : Env → Res D) (l h : Env → Res (Option Int)) : Env → Res D := fun env => (a env).bind fun x => (l env).bind fun lo => (h env).bind fun hi => op? (f x lo hi)
variable {lo hi : Option Expr} {dlo dhi : Env → Res (Option Int)} {p2 : Pos}
theorem cut_ints (ns : List Int) (lo hi : Option Int) : cutV (ns.map V.int) lo hi = (cutD ns lo hi).map V.int := by
  unfold cutV cutD
  rw [List.length_map, ← List.map_drop, ← List.map_take]
theorem n_slice (hk : Γ.K = X.K) (ha : PE X a (tW Γ W da)) (hl : PO X lo (tO Γ W dlo)) (hh : PO X hi (tO Γ W dhi)) : PE X (.Subscript a (.Slice lo hi none p2) pos) (tN Γ W (dSlice dSlL da dlo dhi)) :=
  PE.w (pe_slice (r := rSlL Γ.K) (by rw [hk]; exact sl_list) ha hl hh) fun σ H Q ⟨G, env, F, er, h⟩ => by
  refine ⟨G, env, F, er, h.bind.imp fun x F1 H1 z0 g1 h1 v r1 => ⟨G, env, F1, er.gr g1, h1.bind.imp fun l F2 H2 z1 g2 h2 => ⟨G, env, F2, (er.gr g1).gr g2, h2.bind.imp fun u F3 H3 z2 g3 h3 => ?_⟩⟩⟩
  have e3 := ((er.gr g1).gr g2).gr g3
  have r3 := (r1.gr g2).gr g3
  have gn := (g1.trans g2).trans g3
  cases x <;> first | exact h3.elim | skip
  · rename_i ns
    obtain ⟨p, rfl, ll, q⟩ := r3.scr e3.fh
    refine ⟨p, _, rfl, q, fun p hp => ?_⟩
    rw [cut_ints]
    obtain ⟨g, fp⟩ := gr_new (o := .lst ((cutD ns l u).map V.int)) e3.fh hp
    exact h3 F3 _ g p (gr_none gn hp) fp ⟨_, upd_same, by rw [List.length_map]; exact Nat.le_trans (cutD_length _ _ _) ll, reps_ints⟩
  · rename_i ds
    obtain ⟨p, vs, rfl, q, ll, r⟩ := r3.lst e3.fh
    refine ⟨p, vs, rfl, SqL.of q, fun p hp => ?_⟩
    obtain ⟨g, fp⟩ := gr_new (o := .lst (cutV vs l u)) e3.fh hp
    exact h3 F3 _ g p (gr_none gn hp) fp ⟨_, upd_same, Nat.le_trans (cutD_length _ _ _) ll, cut_reps r⟩
theorem cutS_ok {z : Str} {lo hi : Option Int} (h : sOk z = true) : sOk (cutS z lo hi) = true := by
  refine sOk_mk ?_ fun c hc => ?_
  · have : (cutS z lo hi).length ≤ z.length := by
      show (((z.cps.toList.drop (HT.sIx z.length 0 lo)).take (HT.sIx z.length z.length hi - HT.sIx z.length 0 lo)).toArray).size ≤ z.cps.size
      rw [List.size_toArray, List.length_take, List.length_drop, Array.length_toList]
      omega
    exact Nat.le_trans this (sOk_len h)
  · have hc : c ∈ (z.cps.toList.drop (HT.sIx z.length 0 lo)).take (HT.sIx z.length z.length hi - HT.sIx z.length 0 lo) := by simpa [cutS] using hc
    exact sOk_cps h c (List.mem_of_mem_drop (List.mem_of_mem_take hc))
theorem e_slice (hk : Γ.K = X.K) (ha : PE X a (tW Γ W da)) (hl : PO X lo (tO Γ W dlo)) (hh : PO X hi (tO Γ W dhi)) : PE X (.Subscript a (.Slice lo hi none p2) pos) (tE Γ W (dSlice dSl da dlo dhi)) :=
  PE.w (pe_slice (r := fun x l h H Q => rSlL Γ.K x l h H Q ∨ (rSlS x l h H Q ∨ rSlT Γ.K x l h H Q)) (by rw [hk]; exact sl_list.or (sl_str.or sl_tup)) ha hl hh) fun σ H Q ⟨G, env, F, er, h⟩ => by
  refine ⟨G, env, F, er, h.bind.imp fun x F1 H1 z0 g1 h1 v r1 => ⟨G, env, F1, er.gr g1, h1.bind.imp fun l F2 H2 z1 g2 h2 => ⟨G, env, F2, (er.gr g1).gr g2, h2.bind.imp fun u F3 H3 z2 g3 h3 => ?_⟩⟩⟩
  have e3 := ((er.gr g1).gr g2).gr g3
  have r3 := (r1.gr g2).gr g3
  cases x <;> first | exact h3.elim | skip
  · rename_i z
    obtain ⟨rfl, o⟩ := r3.str
    exact .inr (.inl ⟨z, rfl, sOk_len o, h3.ok e3 _ (by rw [Rep]; exact ⟨rfl, cutS_ok o⟩)⟩)
  · rename_i ns
    obtain ⟨p, rfl, ll, q⟩ := r3.scr e3.fh
    refine .inl ⟨p, _, rfl, q, fun p hp => ?_⟩
    rw [cut_ints]
    obtain ⟨g, fp⟩ := gr_new (o := .lst ((cutD ns l u).map V.int)) e3.fh hp
    obtain ⟨F4, g4, r4⟩ := fresh_gr (d := .lst ((cutD ns l u).map D.int)) g fp hp ⟨_, upd_same, by rw [List.length_map]; exact Nat.le_trans (cutD_length _ _ _) ll, reps_ints⟩ fun _ _ z => by cases z
    exact h3 F4 _ g4 _ r4
  · rename_i ds
    obtain ⟨p, vs, rfl, q, ll, r⟩ := r3.lst e3.fh
    refine .inl ⟨p, vs, rfl, SqL.of q, fun p hp => ?_⟩
    obtain ⟨g, fp⟩ := gr_new (o := .lst (cutV vs l u)) e3.fh hp
    obtain ⟨F4, g4, r4⟩ := fresh_gr (d := .lst (cutD ds l u)) g fp hp ⟨_, upd_same, Nat.le_trans (cutD_length _ _ _) ll, cut_reps r⟩ fun _ _ z => by cases z
    exact h3 F4 _ g4 _ r4
  · rename_i ds
    obtain ⟨p, vs, rfl, q, ll, r⟩ := r3.tup e3.fh
    unfold dSl at h3
    simp only at h3
    split at h3
    · exact h3.elim
    · rename_i hn
      refine .inr (.inr ⟨p, vs, rfl, q, by rw [r.length]; exact hn, fun p hp => ?_⟩)
      obtain ⟨F4, g4, r4⟩ := fresh_tup e3.fh hp (cut_reps (lo := l) (hi := u) r) (Nat.le_trans (cutD_length _ _ _) ll)
      exact h3 F4 _ g4 _ r4
end
end Dn

/-! Den7.lean -/
namespace Dn
open PySem PySem.Spec PyProof.Rows L2

/-! ### targets -/
/-- a target: what it makes of the names; the names' places -/
structure Tg where
  f : D → Env → Option Env
  sl : List Nat
def tgName (i : Nat) : Tg := ⟨fun d env => some (env.set i (.val d)), [i]⟩
def tgsNil : List D → Env → Option Env := fun ds env => match ds with | [] => some env | _ => none
def tgsCons (t : Tg) (r : List D → Env → Option Env) : List D → Env → Option Env := fun ds env => match ds with
  | d :: ds => (t.f d env).bind fun e => r ds e
  | [] => none
def tgTup (n : Nat) (r : List D → Env → Option Env) (sl : List Nat) : Tg := ⟨fun d env => match d with
  | .tup ds => if ds.length = n then r ds env else none
  | _ => none, sl⟩
section
variable (Γ : Gm)
def Off (sl : List Nat) (σ σ' : L2.St) : Prop := σ'.length = σ.length ∧ ∀ j, j ∉ sl → σ'[j]? = σ[j]?
def tG (g : Tg) : TG := fun v σ H Q => ∃ G env F d, ER Γ G env σ F H ∧ Rep Γ F d v ∧ match g.f d env with
  | some e => ∀ σ', ER Γ G e σ' F H → Off g.sl σ σ' → Q σ' H
  | none => False
def tGs (g : List D → Env → Option Env) (sl : List Nat) : TGs := fun vs σ H Q => ∃ G env F ds, ER Γ G env σ F H ∧ Reps Γ F ds vs ∧ match g ds env with
  | some e => ∀ σ', ER Γ G e σ' F H → Off sl σ σ' → Q σ' H
  | none => False
end
section
variable {X : Cx} {Γ : Gm} {W : WX} {pos : Pos} {e tg : Expr} {es : List Expr}
theorem PG.w {t t' : TG} (h : PG X tg t) (i : ∀ v σ H Q, t' v σ H Q → t v σ H Q) : PG X tg t' := ⟨fun pins s σ H v u Q I r q => h.run pins s σ H v u Q I r (i v σ H Q q)⟩
theorem PGs.w {t t' : TGs} (h : PGs X es t) (i : ∀ v σ H Q, t' v σ H Q → t v σ H Q) : PGs X es t' := ⟨fun pins s σ H v u Q I r q => h.run pins s σ H v u Q I r (i v σ H Q q)⟩
theorem Off.refl (sl : List Nat) (σ : L2.St) : Off sl σ σ := ⟨rfl, fun _ _ => rfl⟩
theorem Off.trans {sl sl' : List Nat} {σ σ1 σ2 : L2.St} (a : Off sl σ σ1) (b : Off sl' σ1 σ2) : Off (sl ++ sl') σ σ2 := ⟨b.1.trans a.1, fun j h => by
  rw [List.mem_append] at h
  exact (b.2 j fun z => h (.inr z)).trans (a.2 j fun z => h (.inl z))⟩
theorem g_name {x : Str} {i : Nat} (h : PG X (.Name x pos) (gName i)) : PG X (.Name x pos) (tG Γ (tgName i)) := PG.w h fun v σ H Q ⟨G, env, F, d, er, r, q⟩ =>
  q _ (er.set i r) ⟨by simp, fun j hj => by
    have : i ≠ j := fun z => hj (by simp [tgName, z])
    rw [List.getElem?_set_ne this]⟩
theorem gs_nil : PGs X [] (tGs Γ tgsNil []) := PGs.w pgs_nil fun vs σ H Q ⟨G, env, F, ds, er, r, q⟩ => by
  cases ds with
  | nil => exact ⟨r.nil_inv, q σ er (Off.refl _ _)⟩
  | cons d ds => exact q.elim
theorem gs_cons {t : Tg} {r : List D → Env → Option Env} {sl : List Nat} (h1 : PG X e (tG Γ t)) (h2 : PGs X es (tGs Γ r sl)) (hs : (assignEach (e :: es) X.env).map (·.2) = assign e X.env :: (assignEach es X.env).map (·.2) := by rfl) :
    PGs X (e :: es) (tGs Γ (tgsCons t r) (t.sl ++ sl)) := PGs.w (pgs_cons h1 h2 hs) fun vs σ H Q ⟨G, env, F, ds, er, rr, q⟩ => by
  cases ds with
  | nil => exact q.elim
  | cons d ds =>
    obtain ⟨v, vr, rfl, r1, r2⟩ := rr.cons_inv
    refine ⟨v, vr, rfl, G, env, F, d, er, r1, ?_⟩
    simp only [tgsCons] at q
    cases z : t.f d env with
    | none => rw [z] at q; exact q.elim
    | some e1 =>
      rw [z] at q
      intro σ' er' o
      refine ⟨G, e1, F, ds, er', r2, ?_⟩
      simp only [Option.bind_some] at q
      cases z2 : r ds e1 with
      | none => rw [z2] at q; exact q.elim
      | some e2 =>
        rw [z2] at q
        exact fun σ2 er2 o2 => q σ2 er2 (o.trans o2)
theorem g_tup {r : List D → Env → Option Env} {sl : List Nat} {k n : Nat} (hk : Γ.K = X.K) (hc : X.calm = true) (h : PGs X es (tGs Γ r sl)) (hn : (assignEach es X.env).length = n := by rfl) (hst : (assignEach es X.env).findIdx? (·.1) = none := by rfl) :
    PG X (.Tuple es k pos) (tG Γ (tgTup n r sl)) := PG.w (pg_tup hc h hn hst) fun v σ H Q ⟨G, env, F, d, er, rr, q⟩ => by
  simp only [tgTup] at q
  cases d with
  | tup ds =>
    rw [Rep] at rr
    obtain ⟨a, vs, rfl, sq, l, r2⟩ := rr
    by_cases hl : ds.length = n
    · simp only [if_pos hl] at q
      exact ⟨a, vs, rfl, by rw [← hk]; exact Same.sqt er.fh sq, by rw [r2.length]; exact hl, G, env, F, ds, er, r2, q⟩
    · simp only [if_neg hl] at q
  | _ => exact q.elim

/-! ### what is walked -/
def tI (Γ : Gm) (W : WX) (den : Env → Res (List D)) : TI := fun σ H R => ∃ G env F, ER Γ G env σ F H ∧ post Γ W σ F H (den env) fun ds F' H' =>
  ∀ (J : It) (Gp : Hp → Prop) (Y : Nat → Hp → V → Hp → Prop), Walk J ds.length Gp Y → ds.length ≤ sizeLine → (∀ F1 H1, Same F' F1 → Same F1 H1 → Gp H1) →
    (∀ i F1 H1 x H2, i < ds.length → Same F' F1 → Same F1 H1 → Y i H1 x H2 → ∃ F2 d, Gr F1 H1 F2 H2 ∧ ds[i]? = some d ∧ Rep Γ F2 d x) → R J H'
def dSeqOf : D → Res (List D)
  | .lst ds => .ok ds
  | .tup ds => .ok ds
  | .scr ns => .ok (ns.map D.int)
  | _ => .err
def dItL (den : Env → Res D) : Env → Res (List D) := fun env => (den env).bind fun d => match d with | .lst ds => .ok ds | .scr ns => .ok (ns.map D.int) | _ => .err
def dItT (den : Env → Res D) : Env → Res (List D) := fun env => (den env).bind fun d => match d with | .tup ds => .ok ds | _ => .err
theorem walk_reps {K : PySem.W.Frag} {Fw : Hp} {ds : List D} {vs : List V} (hr : Reps Γ Fw ds vs) : ∀ i F1 H1 x H2, i < ds.length → Same Fw F1 → Same F1 H1 → YAt vs i H1 x H2 → ∃ F2 d, Gr F1 H1 F2 H2 ∧ ds[i]? = some d ∧ Rep Γ F2 d x := fun i F1 H1 x H2 hi s1 s2 ⟨e, hx⟩ => by
  subst e
  obtain ⟨d, hd, r⟩ := hr.getV hx
  exact ⟨F1, d, Gr.refl s2, hd, r.mono s1⟩
theorem i_list {den : Env → Res D} (hk : Γ.K = X.K) (h : PE X e (tE Γ W den)) : PI X tg e (tI Γ W (dItL den)) := PI.w (pi_list h) fun σ H R ⟨G, env, F, er, q⟩ => by
  refine ⟨G, env, F, er, q.bind.imp fun d F1 H1 z0 g1 q1 v r => ?_⟩
  have er1 := er.gr g1
  cases d <;> first | exact q1.elim | skip
  · rename_i ns
    rw [Rep] at r
    obtain ⟨a, rfl, l, sq, _⟩ := r
    have k := q1.ok er1 (Itl X.K a) (fun H => SqL X.K H a (ns.map V.int)) (YAt (ns.map V.int)) (by rw [List.length_map, ← List.length_map (f := V.int) (as := ns)]; exact walk_list) (by rw [List.length_map]; exact l) (fun F2 H2 s s' => by rw [← hk]; exact s'.seq (s.seq sq)) (walk_reps (K := X.K) (reps_ints (Γ := Γ) (F := F1)))
    exact ⟨a, rfl, ⟨_, by rw [← hk]; exact g1.fh.seq sq⟩, k⟩
  · rename_i ds
    rw [Rep] at r
    obtain ⟨a, vs, rfl, sq, l, r⟩ := r
    have k := q1.ok er1 (Itl X.K a) (fun H => SqL X.K H a vs) (YAt vs) (by rw [← r.length]; exact walk_list) l (fun F2 H2 s s' => SqL.of (s' _ _ (s _ _ sq))) (walk_reps (K := X.K) r)
    exact ⟨a, rfl, ⟨_, SqL.of (g1.fh _ _ sq)⟩, k⟩
theorem i_tup {den : Env → Res D} (hk : Γ.K = X.K) (h : PE X e (tE Γ W den)) : PI X tg e (tI Γ W (dItT den)) := PI.w (pi_tup h) fun σ H R ⟨G, env, F, er, q⟩ => by
  refine ⟨G, env, F, er, q.bind.imp fun d F1 H1 z0 g1 q1 v r => ?_⟩
  have er1 := er.gr g1
  cases d <;> first | exact q1.elim | skip
  rename_i ds
  rw [Rep] at r
  obtain ⟨a, vs, rfl, sq, l, r⟩ := r
  have k := q1.ok er1 (Itt X.K a) (fun H => SqT X.K H a vs) (YAt vs) (by rw [← r.length]; exact walk_tup) l (fun F2 H2 s s' => by rw [← hk]; exact Same.sqt s' (Same.sqt s sq)) (walk_reps (K := X.K) r)
  exact ⟨a, rfl, ⟨_, by rw [← hk]; exact Same.sqt g1.fh sq⟩, k⟩
/-- range -/
def rngD (lo : Int) (n : Nat) : List D := (List.range n).map fun (i : Nat) => D.int (lo + (i : Int))
def dRng1 (den : Env → Res (List D)) : Env → Res (List D) := fun env => (den env).bind fun ds => match ds with
  | [.int j] => if j ≤ 1000000 ∧ -1000000000 ≤ j then .ok (rngD 0 j.toNat) else .err
  | _ => .err
def dRng2 (den : Env → Res (List D)) : Env → Res (List D) := fun env => (den env).bind fun ds => match ds with
  | [.int i, .int j] => if -1000000000 ≤ i ∧ i ≤ 1000000000 ∧ -1000000000 ≤ j ∧ j ≤ 1000000000 ∧ j - i ≤ 1000000 then .ok (rngD i (j - i).toNat) else .err
  | _ => .err
theorem walk_rng {lo : Int} {n : Nat} {Fw : Hp} : ∀ i F1 H1 x H2, i < (rngD lo n).length → Same Fw F1 → Same F1 H1 → YFn (fun i => V.int (lo + i)) i H1 x H2 → ∃ F2 d, Gr F1 H1 F2 H2 ∧ (rngD lo n)[i]? = some d ∧ Rep Γ F2 d x := fun i F1 H1 x H2 hi s1 s2 ⟨e, hx⟩ => by
  subst e hx
  have hi' : i < n := by simpa [rngD] using hi
  exact ⟨F1, .int (lo + i), Gr.refl s2, by simp [rngD, hi'], rep_int⟩
theorem le_line {n : Nat} (h : n ≤ 1000000) : n ≤ sizeLine := Nat.le_trans h (by rw [sizeLine_eq]; decide)
theorem rngD_length (lo : Int) (n : Nat) : (rngD lo n).length = n := by simp [rngD]
theorem i_rng1 {a : Expr} {p : Pos} {dl : Env → Res (List D)} (hg : Gl X "range") (hm : X.mg "range" = none) (ha : PA X [a] (tA Γ W dl)) (hs : starEach [a] X.env = [(false, eval a X.env)] := by rfl) : PI X tg (.Call (.Name "range" p) [a] [] pos) (tI Γ W (dRng1 dl)) :=
  PI.w (pi_range1 hg hm ha hs) fun σ H R ⟨G, env, F, er, q⟩ => by
  refine ⟨G, env, F, er, q.bind.imp fun ds F1 H1 z0 g1 q1 vs r => ?_⟩
  have er1 := er.gr g1
  split at q1
  · rename_i j
    split at q1
    · rename_i hj
      obtain ⟨v, r', rfl, r1, r2⟩ := r.cons_inv
      rw [r2.nil_inv]; rw [Rep] at r1; subst r1
      refine ⟨j, rfl, by omega, by omega, ?_⟩
      refine q1.ok er1 (Itr 0 j.toNat) (fun _ => True) (YFn fun i => V.int (0 + i)) (by rw [rngD_length]; exact walk_range) (by rw [rngD_length]; exact le_line (by omega)) (fun _ _ _ _ => trivial) walk_rng
    · exact q1.elim
  · exact q1.elim
theorem i_rng2 {a b : Expr} {p : Pos} {dl : Env → Res (List D)} (hg : Gl X "range") (hm : X.mg "range" = none) (ha : PA X [a, b] (tA Γ W dl)) (hs : starEach [a, b] X.env = [(false, eval a X.env), (false, eval b X.env)] := by rfl) (hs2 : starEach [b] X.env = [(false, eval b X.env)] := by rfl) : PI X tg (.Call (.Name "range" p) [a, b] [] pos) (tI Γ W (dRng2 dl)) :=
  PI.w (pi_range2 hg hm ha hs hs2) fun σ H R ⟨G, env, F, er, q⟩ => by
  refine ⟨G, env, F, er, q.bind.imp fun ds F1 H1 z0 g1 q1 vs r => ?_⟩
  have er1 := er.gr g1
  split at q1
  · rename_i i j
    split at q1
    · rename_i hj
      obtain ⟨v, r', rfl, r1, r2⟩ := r.cons_inv
      obtain ⟨v', r'', rfl, r1', r2'⟩ := r2.cons_inv
      rw [r2'.nil_inv]; rw [Rep] at r1 r1'; subst r1 r1'
      refine ⟨i, j, rfl, ⟨by omega, by omega, by omega, by omega⟩, ?_⟩
      refine q1.ok er1 (Itr i (j - i).toNat) (fun _ => True) (YFn fun k => V.int (i + k)) (by rw [rngD_length]; exact walk_range) (by rw [rngD_length]; exact le_line (by omega)) (fun _ _ _ _ => trivial) walk_rng
    · exact q1.elim
  · exact q1.elim
/-- enumerate -/
def enumD (ds : List D) : List D := (List.range ds.length).zipWith (fun (i : Nat) d => D.tup [.int (i : Int), d]) ds
theorem enumD_length (ds : List D) : (enumD ds).length = ds.length := by simp [enumD]
theorem enumD_get {ds : List D} {i : Nat} {d : D} (h : ds[i]? = some d) : (enumD ds)[i]? = some (.tup [.int (i : Int), d]) := by
  have hi : i < ds.length := (List.getElem?_eq_some_iff.mp h).1
  unfold enumD
  rw [List.getElem?_zipWith, h]
  simp [hi]
def dEnum (den : Env → Res (List D)) : Env → Res (List D) := fun env => (den env).bind fun ds => match ds with
  | [.lst ds] => .ok (enumD ds)
  | [.scr ns] => .ok (enumD (ns.map D.int))
  | _ => .err
theorem walk_enumD {K : PySem.W.Frag} {Fw : Hp} {ds : List D} {vs : List V} (hr : Reps Γ Fw ds vs) : ∀ i F1 H1 x H2, i < (enumD ds).length → Same Fw F1 → Same F1 H1 → YPair (fun i => some (.int (i : Nat))) (fun i => vs[i]?) i H1 x H2 → ∃ F2 d, Gr F1 H1 F2 H2 ∧ (enumD ds)[i]? = some d ∧ Rep Γ F2 d x := fun i F1 H1 x H2 hi s1 s2 ⟨T, x1, y1, e, hT, e2, hx, hy⟩ => by
  subst e e2; cases hx
  obtain ⟨d, hd, r⟩ := hr.getV hy
  obtain ⟨F2, g2, r2⟩ := fresh_tup (ds := [.int (i : Int), d]) (vs := [.int (i : Nat), y1]) s2 hT (.cons rep_int (.cons (r.mono s1) .nil)) (by show 2 ≤ sizeLine; decide)
  exact ⟨F2, _, g2, enumD_get hd, r2⟩
theorem i_enum {a : Expr} {p tpos : Pos} {elts : List Expr} {kk : Nat} {dl : Env → Res (List D)} (hk : Γ.K = X.K) (hg : Gl X "enumerate") (hm : X.mg "enumerate" = none) (ha : PA X [a] (tA Γ W dl)) (hs : starEach [a] X.env = [(false, eval a X.env)] := by rfl) :
    PI X (.Tuple elts kk tpos) (.Call (.Name "enumerate" p) [a] [] pos) (tI Γ W (dEnum dl)) := PI.w (pi_enum hg hm ha hs) fun σ H R ⟨G, env, F, er, q⟩ => by
  refine ⟨G, env, F, er, q.bind.imp fun ds F1 H1 z0 g1 q1 vs r => ?_⟩
  have er1 := er.gr g1
  split at q1
  · rename_i ds
    obtain ⟨v, r', rfl, r1, r2⟩ := r.cons_inv
    rw [r2.nil_inv]; rw [Rep] at r1
    obtain ⟨a, vs, rfl, sq, l, rr⟩ := r1
    refine ⟨a, vs, rfl, SqL.of (g1.fh _ _ sq), ?_⟩
    exact q1.ok er1 (Ite X.K a) (fun H => SqL X.K H a vs) _ (by rw [enumD_length, ← rr.length]; exact walk_enum) (by rw [enumD_length]; exact l) (fun F2 H2 s s' => SqL.of (s' _ _ (s _ _ sq))) (walk_enumD (K := X.K) rr)
  · rename_i ns
    obtain ⟨v, r', rfl, r1, r2⟩ := r.cons_inv
    rw [r2.nil_inv]; rw [Rep] at r1
    obtain ⟨a, rfl, l, sq, _⟩ := r1
    refine ⟨a, _, rfl, by rw [← hk]; exact g1.fh.seq sq, ?_⟩
    exact q1.ok er1 (Ite X.K a) (fun H => SqL X.K H a (ns.map V.int)) _ (by rw [enumD_length, List.length_map, ← List.length_map (f := V.int) (as := ns)]; exact walk_enum) (by rw [enumD_length, List.length_map]; exact l) (fun F2 H2 s s' => by rw [← hk]; exact s'.seq (s.seq sq)) (walk_enumD (K := X.K) reps_ints)
  · exact q1.elim
/-- a text, sign by sign -/
def signsD (z : Str) : List D := z.cps.toList.map fun c => .str ⟨#[c]⟩
def dItS (den : Env → Res D) : Env → Res (List D) := fun env => (den env).bind fun d => match d with | .str z => .ok (signsD z) | _ => .err
theorem i_str {den : Env → Res D} (h : PE X e (tE Γ W den)) : PI X tg e (tI Γ W (dItS den)) := PI.w (pi_str h) fun σ H R ⟨G, env, F, er, q⟩ => by
  refine ⟨G, env, F, er, q.bind.imp fun d F1 H1 z0 g1 q1 v r => ?_⟩
  have er1 := er.gr g1
  cases d <;> first | exact q1.elim | skip
  rename_i z
  rw [Rep] at r
  obtain ⟨rfl, o⟩ := r
  refine ⟨z, rfl, ?_⟩
  refine q1.ok er1 (Its z) (fun _ => True) _ (by unfold signsD; rw [List.length_map, Array.length_toList]; exact walk_str) (by unfold signsD; rw [List.length_map, Array.length_toList]; exact sOk_len o) (fun _ _ _ _ => trivial) ?_
  rintro i F2 H2 x H3 hi s1 s2 ⟨rfl, c, hc, rfl⟩
  have hc' : z.cps.toList[i]? = some c := by simpa using hc
  refine ⟨F2, .str ⟨#[c]⟩, Gr.refl s2, by unfold signsD; rw [List.getElem?_map, hc']; rfl, ?_⟩
  rw [Rep]
  refine ⟨rfl, sOk_mk (by show 1 ≤ sizeLine; decide) fun x hx => ?_⟩
  have hx : x = c := by simpa using hx
  subst hx
  exact sOk_cps o _ (List.mem_of_getElem? hc')
end
end Dn

/-! Den8.lean -/
namespace Dn
open PySem PySem.Spec PyProof.Rows L2

/-! ### for -/
def dLoop (tgt : D → Env → Option Env) (body : Env → Out) (kl : Env → Env) : List D → Env → Out
  | [], e => .nx e
  | d :: ds, e => match tgt d e with
    | none => .err
    | some e1 => match body e1 with
      | .nx e2 => dLoop tgt body kl ds (kl e2)
      | .ct e2 => dLoop tgt body kl ds (kl e2)
      | .bk e2 => .nx (kl e2)
      | .ret d => .ret d
      | .exc e2 c fs => .exc e2 c fs
      | .err => .err
def dFor (it : Env → Res (List D)) (tgt : Tg) (body : Env → Out) (kl : Env → Env) : Env → Out := fun env => match it env with
  | .ok ds => dLoop tgt.f body kl ds (kl env)
  | .exc c fs => .exc env c fs
  | .err => .err
section
variable {X : Cx} {Γ : Gm} {W : WX} {pos : Pos} {iter tg : Expr} {bd : List Stmt}
theorem s_for {it : Env → Res (List D)} {tgt : Tg} {body : Env → Out} {kl : Env → Env} (hp : PassesOwn (model X.prog X.w) X.A X.env X.xe) (hc : X.calm = true) (hi : PI X tg iter (tI Γ W it)) (hg : PG X tg (tG Γ tgt)) (hb : PSs X bd (tS Γ W body)) (hkl : Ghost Γ kl)
    (hs : ∀ x, foldedSetIterable iter X.env x = pure x := by intro _; rfl) : PS X (.For tg iter bd [] pos) (tS Γ W (dFor it tgt body kl)) := PS.w (ps_for hp hc hi hg hb hs) fun Dd σ H ⟨G, env, F, er, q⟩ => by
  refine ⟨G, env, F, er, ?_⟩
  unfold dFor at q
  cases z : it env with
  | err => rw [z] at q; exact q.elim
  | exc c fs => rw [z] at q; exact fun F' H' d g x => q σ F' H' d g.ff (er.gr g) x
  | ok ds =>
    rw [z] at q
    intro F1 H1 g J Gp Y w _ hG hY
    have er1 := er.gr g
    refine for_it w (fun i σ2 H2 => ∃ e F2, Same F1 F2 ∧ ER Γ G e σ2 F2 H2 ∧ sPost Γ W G Dd F2 (dLoop tgt.f body kl (ds.drop i) e)) ?_ ?_ ?_ ?_
    · obtain ⟨F2, s2, e2⟩ := hkl er1
      exact ⟨_, F2, s2, e2, by rw [List.drop_zero]; exact q.mono (g.ff.trans s2)⟩
    · rintro i σ2 H2 _ ⟨e, F2, s2, e2, _⟩
      exact hG F2 H2 s2 e2.fh
    · rintro i x σ2 H2 H3 hi ⟨e, F2, s2, e2, p2⟩ y
      obtain ⟨F3, d, g3, hd, r3⟩ := hY i F2 H2 x H3 hi s2 e2.fh y
      have hdr : ds.drop i = d :: ds.drop (i + 1) := by
        have h1 : i < ds.length := hi
        rw [List.getElem?_eq_getElem h1] at hd
        cases hd
        exact List.drop_eq_getElem_cons h1
      rw [hdr] at p2
      unfold dLoop at p2
      refine ⟨G, e, F3, d, e2.gr g3, r3, ?_⟩
      cases zt : tgt.f d e with
      | none => rw [zt] at p2; exact p2.elim
      | some e1 =>
        rw [zt] at p2
        intro σ3 er3 _
        refine ⟨G, e1, F3, er3, ?_⟩
        simp only at p2
        have s3 := s2.trans g3.ff
        have again : ∀ {e2' : Env}, sPost Γ W G Dd F2 (dLoop tgt.f body kl (ds.drop (i + 1)) (kl e2')) → ∀ σ' F' H', Same F3 F' → ER Γ G e2' σ' F' H' → ∃ e F2, Same F1 F2 ∧ ER Γ G e σ' F2 H' ∧ sPost Γ W G Dd F2 (dLoop tgt.f body kl (ds.drop (i + 1)) e) := fun {e2'} pp σ' F' H' s' er' => by
          obtain ⟨F4, s4, e4⟩ := hkl er'
          exact ⟨_, F4, s3.trans (s'.trans s4), e4, pp.mono (g3.ff.trans (s'.trans s4))⟩
        cases zb : body e1 with
        | nx e2' => rw [zb] at p2; exact again p2
        | ct e2' => rw [zb] at p2; exact again p2
        | bk e2' =>
          rw [zb] at p2
          intro σ' F' H' s' er'
          obtain ⟨F4, s4, e4⟩ := hkl er'
          exact p2 σ' F4 H' (g3.ff.trans (s'.trans s4)) e4
        | ret d' => rw [zb] at p2; exact fun v e' σ' F' H' s' er' r' => p2 v e' σ' F' H' (g3.ff.trans s') er' r'
        | exc e2' c fs => rw [zb] at p2; exact fun σ' F' H' dd s' er' x' => p2 σ' F' H' dd (g3.ff.trans s') er' x'
        | err => rw [zb] at p2; exact p2.elim
    · rintro σ2 H2 ⟨e, F2, s2, e2, p2⟩
      rw [List.drop_length] at p2
      exact p2 σ2 F2 H2 (Same.refl _) e2
end

/-! ### comprehensions -/
def W0 : WX := fun _ _ _ _ => False
def dCompL (tgt : D → Env → Option Env) (tst : Env → Res Bool) (elt : Env → Res D) (e : Env) : List D → Res (List D)
  | [] => .ok []
  | d :: ds => match tgt d e with
    | none => .err
    | some e1 => match tst e1 with
      | .ok false => dCompL tgt tst elt e ds
      | .ok true => match elt e1 with
        | .ok x => match dCompL tgt tst elt e ds with
          | .ok xs => .ok (x :: xs)
          | _ => .err
        | _ => .err
      | _ => .err
def dComp (it : Env → Res (List D)) (tgt : Tg) (tst : Env → Res Bool) (elt : Env → Res D) (vs : List Nat) : Env → Res D := fun env => (it env).bind fun ds => match dCompL tgt.f tst elt (kills vs env) ds with
  | .ok xs => .ok (.lst xs)
  | _ => .err
section
variable {X : Cx} {Γ : Gm} {W : WX} {pos : Pos} {iter tg elt : Expr} {ifs : List Expr}
theorem PTs.w {t t' : TT} (h : PTs X ifs t) (i : ∀ σ H Q, t' σ H Q → t σ H Q) : PTs X ifs t' := ⟨fun pins s σ H Q I q => h.run pins s σ H Q I (i σ H Q q)⟩
def dYes : Env → Res Bool := fun _ => .ok true
theorem q_nil : PTs X [] (tT Γ W dYes) := PTs.w pts_nil fun σ H Q ⟨G, env, F, er, h⟩ => post.ok (W := W) er h
theorem q_one {c : Expr} {t : Env → Res Bool} (h : PT X c (tT Γ W t)) : PTs X [c] (tT Γ W t) := pts_one h
theorem wipe_get {σ : L2.St} : ∀ {vs : List Nat} {j : Nat}, j ∉ vs → (wipe σ vs)[j]? = σ[j]?
  | [], _, _ => rfl
  | v :: vs, j, h => by
    have h1 : v ≠ j := fun z => h (by simp [z])
    have h2 : j ∉ vs := fun z => h (by simp [z])
    unfold wipe
    rw [List.getElem?_set_ne h1, wipe_get h2]
theorem wipe_in {σ : L2.St} : ∀ {vs : List Nat} {j : Nat}, j ∈ vs → j < σ.length → (wipe σ vs)[j]? = some none
  | v :: vs, j, h, hl => by
    unfold wipe
    by_cases hj : v = j
    · subst hj; rw [List.getElem?_set_self (by rw [wipe_length]; exact hl)]
    · rw [List.getElem?_set_ne hj]
      refine wipe_in ?_ hl
      rcases List.mem_cons.mp h with z | z
      · exact (hj z.symm).elim
      · exact z
theorem wipe_eq {σ σ' : L2.St} {vs : List Nat} (hl : σ'.length = σ.length) (h : ∀ j, j ∉ vs → σ'[j]? = σ[j]?) : wipe σ' vs = wipe σ vs := by
  apply List.ext_getElem?
  intro j
  by_cases hj : j ∈ vs
  · by_cases hlt : j < σ.length
    · rw [wipe_in hj hlt, wipe_in hj (by rw [hl]; exact hlt)]
    · rw [List.getElem?_eq_none (by rw [wipe_length]; omega), List.getElem?_eq_none (by rw [wipe_length]; omega)]
  · rw [wipe_get hj, wipe_get hj]; exact h j hj
theorem kills_length : ∀ {vs : List Nat} {env : Env}, (kills vs env).length = env.length
  | [], _ => rfl
  | v :: vs, env => by
    show (kills vs (env.set v .un)).length = _
    rw [kills_length, List.length_set]
theorem kills_un : ∀ {vs : List Nat} {env : Env} {j : Nat}, (env[j]? = some .un ∨ (j ∈ vs ∧ j < env.length)) → (kills vs env)[j]? = some .un
  | [], _, _, h => by
    rcases h with h | h
    · exact h
    · exact absurd h.1 (by simp)
  | v :: vs, env, j, h => by
    show (kills vs (env.set v .un))[j]? = _
    refine kills_un ?_
    by_cases hj : v = j
    · subst hj
      rcases h with h | h
      · have hl := (List.getElem?_eq_some_iff.mp h).1
        exact .inl (by rw [List.getElem?_set_self hl])
      · exact .inl (by rw [List.getElem?_set_self h.2])
    · rcases h with h | h
      · exact .inl (by rw [List.getElem?_set_ne hj]; exact h)
      · rcases List.mem_cons.mp h.1 with z | z
        · exact (hj z.symm).elim
        · exact .inr ⟨z, by rw [List.length_set]; exact h.2⟩
theorem ER.wiped {G : Gd} {env : Env} {σ : L2.St} {F H : Hp} (er : ER Γ G env σ F H) (vs : List Nat) : ER Γ G (Dn.kills vs env) (wipe σ vs) F H := by
  have go : ∀ (ws : List Nat), (∀ j ∈ ws, j ∈ vs) → ER Γ G (Dn.kills vs env) (wipe σ ws) F H := by
    intro ws
    induction ws with
    | nil => intro _; exact er.kills vs
    | cons v ws ih =>
      intro h
      have ih := ih fun j hj => h j (List.mem_cons_of_mem _ hj)
      unfold wipe
      by_cases hv : v < env.length
      · exact ih.setUn v none (kills_un (.inr ⟨h v List.mem_cons_self, hv⟩))
      · have : (wipe σ ws).set v none = wipe σ ws := List.set_eq_of_length_le (by rw [wipe_length, er.len]; omega)
        rw [this]; exact ih
  exact go vs fun _ h => h

theorem comp_r {own : List (Str × Nat)} {it : Env → Res (List D)} {tgt : Tg} {tst : Env → Res Bool} {de : Env → Res D} {σ : L2.St} {H : Hp} {Q : VK} (hsl : ∀ j ∈ tgt.sl, j ∈ own.map (·.2)) (h : tN Γ W (dComp it tgt tst de (own.map (·.2))) σ H Q) :
    tLc (tI Γ W it) (tG Γ tgt) (tT Γ W0 tst) (tE Γ W0 de) (own.map (·.2)) σ H Q := by
  obtain ⟨G, env, F, er, h⟩ := h
  refine ⟨G, env, F, er, h.bind.imp fun ds F1 H1 z0 g1 h1 => ?_⟩
  have er1 := er.gr g1
  intro J Gp Y w hline hG hY L hL
  cases zz : dCompL tgt.f tst de (kills (own.map (·.2)) env) ds with
  | err => rw [zz] at h1; exact h1.elim
  | exc c fs => rw [zz] at h1; exact h1.elim
  | ok total =>
    rw [zz] at h1
    have fL : F1 L = none := by
      cases q : F1 L with
      | none => rfl
      | some o => have := g1.fh L o q; rw [hL] at this; cases this
    refine lc_it w (fun i H2 => ∃ acc xs F2 rest, Gr F1 H1 F2 H2 ∧ F2 L = none ∧ H2 L = some (.lst acc) ∧ Reps Γ F2 xs acc ∧ xs.length ≤ i ∧ dCompL tgt.f tst de (kills (own.map (·.2)) env) (ds.drop i) = .ok rest ∧ total = xs ++ rest) ?_ ?_ ?_ ?_
    · obtain ⟨gn, _⟩ := gr_new (o := .lst []) er1.fh hL
      exact ⟨[], [], F1, total, gn, fL, upd_same, .nil, Nat.le_refl _, by rw [List.drop_zero]; exact zz, rfl⟩
    · rintro i H2 _ ⟨acc, xs, F2, rest, g2, _⟩
      exact hG F2 H2 g2.ff g2.fh
    · rintro i x H2 H3 hi ⟨acc, xs, F2, rest, g2, f2, hL2, r2, l2, c2, t2⟩ y
      obtain ⟨F3, d, g3, hd, r3⟩ := hY i F2 H2 x H3 hi g2.ff g2.fh y
      have hdr : ds.drop i = d :: ds.drop (i + 1) := by
        have h1 : i < ds.length := hi
        rw [List.getElem?_eq_getElem h1] at hd
        cases hd
        exact List.drop_eq_getElem_cons h1
      have nf : ∀ {Fa Ha Fb Hb : Hp}, Gr Fa Ha Fb Hb → Fa L = none → Ha L = some (.lst acc) → Fb L = none ∧ Hb L = some (.lst acc) := fun {Fa Ha Fb Hb} g f e => by
        refine ⟨?_, g.hh _ _ e⟩
        cases q : Fb L with
        | none => rfl
        | some o =>
          rcases g.new L o q with z | z
          · rw [f] at z; cases z
          · rw [e] at z; cases z
      obtain ⟨f3, hL3⟩ := nf g3 f2 hL2
      rw [hdr] at c2
      unfold dCompL at c2
      have er3 := ((er1.gr g2).gr g3).wiped (own.map (·.2))
      refine ⟨G, _, F3, d, er3, r3, ?_⟩
      cases zt : tgt.f d (kills (own.map (·.2)) env) with
      | none => rw [zt] at c2; cases c2
      | some e1 =>
        rw [zt] at c2
        intro σ3 er4 off
        refine ⟨?_, G, e1, F3, er4, ?_⟩
        · refine wipe_eq off.1 (fun j hj => ?_) |>.trans (wipe_eq (by rw [wipe_length]) fun j hj => ?_)
          · exact off.2 j fun z => hj (hsl j z)
          · exact wipe_get hj
        · simp only at c2
          cases zs : tst e1 with
          | err => rw [zs] at c2; cases c2
          | exc c fs => rw [zs] at c2; cases c2
          | ok k =>
            rw [zs] at c2
            intro F4 H4 g4
            obtain ⟨f4, hL4⟩ := nf g4 f3 hL3
            show ite _ _ _
            cases k with
            | false =>
              rw [if_neg Bool.false_ne_true]
              exact ⟨acc, xs, F4, rest, (g2.trans g3).trans g4, f4, hL4, r2.mono (g3.ff.trans g4.ff), by omega, c2, t2⟩
            | true =>
              rw [if_pos rfl]
              refine ⟨G, e1, F4, er4.gr g4, ?_⟩
              simp only at c2
              cases ze : de e1 with
              | err => rw [ze] at c2; cases c2
              | exc c fs => rw [ze] at c2; cases c2
              | ok y' =>
                rw [ze] at c2
                intro F5 H5 g5 v5 r5
                obtain ⟨f5, hL5⟩ := nf g5 f4 hL4
                simp only at c2
                cases zr : dCompL tgt.f tst de (kills (own.map (·.2)) env) (ds.drop (i + 1)) with
                | err => rw [zr] at c2; cases c2
                | exc c fs => rw [zr] at c2; cases c2
                | ok rest' =>
                  rw [zr] at c2
                  cases c2
                  have gg := ((g2.trans g3).trans g4).trans g5
                  refine ⟨acc, hL5, by rw [r2.length]; have : i < ds.length := hi
                                       omega, acc ++ [v5], xs ++ [y'], F5, rest', ⟨gg.ff, fun p o q => ?_, fun p o q => ?_, gg.new⟩, f5, upd_same, (r2.mono ((g3.ff.trans g4.ff).trans g5.ff)).append (.cons r5 .nil), by simp; omega, rfl, by rw [t2]; simp⟩
                  · rw [upd_ne (ne_of_none q f5)]; exact gg.fh p o q
                  · rw [upd_ne (ne_of_none q hL)]; exact gg.hh p o q
    · rintro H2 ⟨acc, xs, F2, rest, g2, f2, hL2, r2, l2, c2, t2⟩
      rw [List.drop_length] at c2
      unfold dCompL at c2
      cases c2
      rw [List.append_nil] at t2
      subst t2
      exact h1 F2 H2 g2 L (gr_none g1 hL) f2 ⟨acc, hL2, Nat.le_trans l2 hline, r2⟩
theorem n_comp0 {scope : Scope} {own : List (Str × Nat)} {it : Env → Res (List D)} {tgt : Tg} {tst : Env → Res Bool} {de : Env → Res D} (hc : X.calm = true) (hN : X.N.Nodup) (hi : PI X tg iter (tI Γ W it)) (ok : BlkOk X.N X.env.scope scope own) (hsl : ∀ j ∈ tgt.sl, j ∈ own.map (·.2))
    (hg : ∀ (s : Shared) (H : Hp) (C : Addr) (cl : List (Str × Addr)) (fp : List Addr), PG (X.blk s H scope (compEnvC scope cl C X.env) fp) tg (tG Γ tgt)) (ht : ∀ (s : Shared) (H : Hp) (C : Addr) (cl : List (Str × Addr)) (fp : List Addr), PTs (X.blk s H scope (compEnvC scope cl C X.env) fp) ifs (tT Γ W0 tst))
    (he : ∀ (s : Shared) (H : Hp) (C : Addr) (cl : List (Str × Addr)) (fp : List Addr), PE (X.blk s H scope (compEnvC scope cl C X.env) fp) elt (tE Γ W0 de)) (hs : ∀ x, foldedSetIterable iter X.env x = pure x := by intro _; rfl) :
    PE X (.ListComp elt [⟨tg, iter, ifs, 0⟩] scope pos) (tN Γ W (dComp it tgt tst de (own.map (·.2)))) := PE.w (pe_lc hc hN hi ok hg ht he hs) fun σ H Q h => comp_r hsl h
theorem n_comp {scope : Scope} {own : List (Str × Nat)} {it : Env → Res (List D)} {tgt : Tg} {tst : Env → Res Bool} {de : Env → Res D} (hc : X.calm = true) (hN : X.N.Nodup) (hi : PI X tg iter (tI Γ W it)) (ok : BlkOk X.N X.env.scope scope own) (hsl : ∀ j ∈ tgt.sl, j ∈ own.map (·.2))
    (hg : ∀ (s : Shared) (H : Hp) (C : Addr) (cl : List (Str × Addr)) (fp : List Addr), PG (X.blk s H scope (compEnvC scope cl C X.env) fp) tg (tG Γ tgt)) (ht : ∀ (s : Shared) (H : Hp) (C : Addr) (cl : List (Str × Addr)) (fp : List Addr), PTs (X.blk s H scope (compEnvC scope cl C X.env) fp) ifs (tT Γ W0 tst))
    (he : ∀ (s : Shared) (H : Hp) (C : Addr) (cl : List (Str × Addr)) (fp : List Addr), PE (X.blk s H scope (compEnvC scope cl C X.env) fp) elt (tE Γ W0 de)) (hs : ∀ x, foldedSetIterable iter X.env x = pure x := by intro _; rfl) {vs : List Nat} (hvs : own.map (·.2) = vs := by rfl) :
    PE X (.ListComp elt [⟨tg, iter, ifs, 0⟩] scope pos) (tN Γ W (dComp it tgt tst de vs)) := by subst hvs; exact n_comp0 hc hN hi ok hsl hg ht he hs
theorem s_ownComp0 {i : Nat} {y : Str} {py spos : Pos} {scope : Scope} {own : List (Str × Nat)} {it : Env → Res (List D)} {tgt : Tg} {tst : Env → Res Bool} {de : Env → Res D} (hc : X.calm = true) (hN : X.N.Nodup) (hy : X.N[i]? = some y) (hyl : X.env.scope.names.lookup y = some .local)
    (hsw : swapsWith (.ListComp elt [⟨tg, iter, ifs, 0⟩] scope pos) (some (.Name y py)) spos.line X.env = pure true) (hi : PI X tg iter (tI Γ W it)) (ok : BlkOk X.N X.env.scope scope own) (hsl : ∀ j ∈ tgt.sl, j ∈ own.map (·.2))
    (hg : ∀ (s : Shared) (H : Hp) (C : Addr) (cl : List (Str × Addr)) (fp : List Addr), PG (X.blk s H scope (compEnvC scope cl C X.env) fp) tg (tG Γ tgt)) (ht : ∀ (s : Shared) (H : Hp) (C : Addr) (cl : List (Str × Addr)) (fp : List Addr), PTs (X.blk s H scope (compEnvC scope cl C X.env) fp) ifs (tT Γ W0 tst))
    (he : ∀ (s : Shared) (H : Hp) (C : Addr) (cl : List (Str × Addr)) (fp : List Addr), PE (X.blk s H scope (compEnvC scope cl C X.env) fp) elt (tE Γ W0 de)) (hs : ∀ x, foldedSetIterable iter X.env x = pure x := by intro _; rfl) (hi0 : i ≠ 0 := by decide) :
    PS X (.Assign [.Name y py] (.ListComp elt [⟨tg, iter, ifs, 0⟩] scope pos) spos) (tS Γ W (dOwn i (dComp it tgt tst de (own.map (·.2))))) := PS.w (ps_setLc hc hN hy hyl hsw hi ok hg ht he hs) fun Dd σ H ⟨G, env, F, er, q⟩ =>
  comp_r (W := W) hsl ⟨G, env, F, er, xpost (f := fun d => Out.nx (env.set i (.own d))) _ er q fun d F' H' g e' q a ha fa t => q _ F' H' (Same.refl _) (e'.setOwn i (er.newAt g ha fa t) hi0)⟩
theorem s_ownComp {i : Nat} {y : Str} {py spos : Pos} {scope : Scope} {own : List (Str × Nat)} {it : Env → Res (List D)} {tgt : Tg} {tst : Env → Res Bool} {de : Env → Res D} (hc : X.calm = true) (hN : X.N.Nodup) (hy : X.N[i]? = some y) (hyl : X.env.scope.names.lookup y = some .local)
    (hsw : swapsWith (.ListComp elt [⟨tg, iter, ifs, 0⟩] scope pos) (some (.Name y py)) spos.line X.env = pure true) (hi : PI X tg iter (tI Γ W it)) (ok : BlkOk X.N X.env.scope scope own) (hsl : ∀ j ∈ tgt.sl, j ∈ own.map (·.2))
    (hg : ∀ (s : Shared) (H : Hp) (C : Addr) (cl : List (Str × Addr)) (fp : List Addr), PG (X.blk s H scope (compEnvC scope cl C X.env) fp) tg (tG Γ tgt)) (ht : ∀ (s : Shared) (H : Hp) (C : Addr) (cl : List (Str × Addr)) (fp : List Addr), PTs (X.blk s H scope (compEnvC scope cl C X.env) fp) ifs (tT Γ W0 tst))
    (he : ∀ (s : Shared) (H : Hp) (C : Addr) (cl : List (Str × Addr)) (fp : List Addr), PE (X.blk s H scope (compEnvC scope cl C X.env) fp) elt (tE Γ W0 de)) (hs : ∀ x, foldedSetIterable iter X.env x = pure x := by intro _; rfl) {vs : List Nat} (hvs : own.map (·.2) = vs := by rfl) (hi0 : i ≠ 0 := by decide) :
    PS X (.Assign [.Name y py] (.ListComp elt [⟨tg, iter, ifs, 0⟩] scope pos) spos) (tS Γ W (dOwn i (dComp it tgt tst de vs))) := by subst hvs; exact s_ownComp0 hc hN hy hyl hsw hi ok hsl hg ht he hs hi0
theorem flat_comp {it : Env → Res (List D)} {tgt : Tg} {tst : Env → Res Bool} {de : Env → Res D} {vs : List Nat} : ∀ env d, dComp it tgt tst de vs env = .ok d → flat d = true := fun env d h => by
  unfold dComp at h
  cases z : it env with
  | ok ds =>
    rw [z] at h; simp only [Res.bind_ok] at h
    cases z2 : dCompL tgt.f tst de (kills vs env) ds with
    | ok xs => rw [z2] at h; cases h; rfl
    | exc c fs => rw [z2] at h; cases h
    | err => rw [z2] at h; cases h
  | exc c fs => rw [z] at h; cases h
  | err => rw [z] at h; cases h
theorem n_of_e {den : Env → Res D} {σ : L2.St} {H : Hp} {Q : VK} (hf : ∀ env d, den env = .ok d → flat d = true) : tE Γ W den σ H Q → tN Γ W den σ H Q := fun ⟨G, env, F, er, q⟩ => by
  refine ⟨G, env, F, er, ?_⟩
  have hf := hf env
  cases z : den env with
  | err => rw [z] at q; exact q
  | exc c fs => rw [z] at q; exact q
  | ok d =>
    rw [z] at q
    intro F1 H1 g a ha fa t
    obtain ⟨F2, g2, r⟩ := fresh_gr g fa ha t fun c ds hd => by have := hf d z; rw [hd] at this; cases this
    exact q F2 H1 g2 _ r
theorem s_setComp0 {i : Nat} {y : Str} {py spos : Pos} {scope : Scope} {own : List (Str × Nat)} {it : Env → Res (List D)} {tgt : Tg} {tst : Env → Res Bool} {de : Env → Res D} (hc : X.calm = true) (hN : X.N.Nodup) (hy : X.N[i]? = some y) (hyl : X.env.scope.names.lookup y = some .local)
    (hsw : swapsWith (.ListComp elt [⟨tg, iter, ifs, 0⟩] scope pos) (some (.Name y py)) spos.line X.env = pure true) (hi : PI X tg iter (tI Γ W it)) (ok : BlkOk X.N X.env.scope scope own) (hsl : ∀ j ∈ tgt.sl, j ∈ own.map (·.2))
    (hg : ∀ (s : Shared) (H : Hp) (C : Addr) (cl : List (Str × Addr)) (fp : List Addr), PG (X.blk s H scope (compEnvC scope cl C X.env) fp) tg (tG Γ tgt)) (ht : ∀ (s : Shared) (H : Hp) (C : Addr) (cl : List (Str × Addr)) (fp : List Addr), PTs (X.blk s H scope (compEnvC scope cl C X.env) fp) ifs (tT Γ W0 tst))
    (he : ∀ (s : Shared) (H : Hp) (C : Addr) (cl : List (Str × Addr)) (fp : List Addr), PE (X.blk s H scope (compEnvC scope cl C X.env) fp) elt (tE Γ W0 de)) (hs : ∀ x, foldedSetIterable iter X.env x = pure x := by intro _; rfl) :
    PS X (.Assign [.Name y py] (.ListComp elt [⟨tg, iter, ifs, 0⟩] scope pos) spos) (tS Γ W (dSet i (dComp it tgt tst de (own.map (·.2))))) := PS.w (ps_setLc hc hN hy hyl hsw hi ok hg ht he hs) fun Dd σ H ⟨G, env, F, er, q⟩ =>
  comp_r (W := W) hsl (n_of_e flat_comp ⟨G, env, F, er, xpost (f := fun d => Out.nx (env.set i (.val d))) _ er q fun d F' H' g e' q v r => q _ F' H' (Same.refl _) (e'.set i r)⟩)
theorem s_setComp {i : Nat} {y : Str} {py spos : Pos} {scope : Scope} {own : List (Str × Nat)} {it : Env → Res (List D)} {tgt : Tg} {tst : Env → Res Bool} {de : Env → Res D} (hc : X.calm = true) (hN : X.N.Nodup) (hy : X.N[i]? = some y) (hyl : X.env.scope.names.lookup y = some .local)
    (hsw : swapsWith (.ListComp elt [⟨tg, iter, ifs, 0⟩] scope pos) (some (.Name y py)) spos.line X.env = pure true) (hi : PI X tg iter (tI Γ W it)) (ok : BlkOk X.N X.env.scope scope own) (hsl : ∀ j ∈ tgt.sl, j ∈ own.map (·.2))
    (hg : ∀ (s : Shared) (H : Hp) (C : Addr) (cl : List (Str × Addr)) (fp : List Addr), PG (X.blk s H scope (compEnvC scope cl C X.env) fp) tg (tG Γ tgt)) (ht : ∀ (s : Shared) (H : Hp) (C : Addr) (cl : List (Str × Addr)) (fp : List Addr), PTs (X.blk s H scope (compEnvC scope cl C X.env) fp) ifs (tT Γ W0 tst))
    (he : ∀ (s : Shared) (H : Hp) (C : Addr) (cl : List (Str × Addr)) (fp : List Addr), PE (X.blk s H scope (compEnvC scope cl C X.env) fp) elt (tE Γ W0 de)) (hs : ∀ x, foldedSetIterable iter X.env x = pure x := by intro _; rfl) {vs : List Nat} (hvs : own.map (·.2) = vs := by rfl) :
    PS X (.Assign [.Name y py] (.ListComp elt [⟨tg, iter, ifs, 0⟩] scope pos) spos) (tS Γ W (dSet i (dComp it tgt tst de vs))) := by subst hvs; exact s_setComp0 hc hN hy hyl hsw hi ok hsl hg ht he hs
end
end Dn

/-! Den9.lean -/
namespace Dn
open PySem PySem.Spec PyProof.Rows L2

/-! ### what a def promises -/
section
variable (Γ : Gm)
def rPost (F H : Hp) (r : Res D) (Q : VK) (E : XK) : Prop := match r with
  | .ok d => ∀ v F' H', Gr F H F' H' → Rep Γ F' d v → Q v H'
  | .exc c fs => ∀ F' H' d, Gr F H F' H' → XD Γ F' c fs d → E (.ref (Γ.cls c)) d H'
  | .err => False
def spD (n : Nat) (f : List D → Res D) : Sp := fun vs H Q E => ∃ ds F, ds.length = n ∧ Same F H ∧ Reps Γ F ds vs ∧ rPost Γ F H (f ds) Q E
end
/-- the names at the entry -/
def env0 (n N : Nat) (ds : List D) : Env := ds.map Slot.val ++ List.replicate (N - n) .un
def outR : Out → Res D
  | .nx _ => .ok .non
  | .ret d => .ok d
  | .exc _ c fs => .exc c fs
  | _ => .err
def dFn (n N : Nat) (body : Env → Out) : List D → Res D := fun ds => outR (body (env0 n N ds))
section
variable {P : Program} {w : World} {K : PySem.W.Frag} {mg : Str → Option Value} {base : Heap} {Γ : Gm}
theorem er_start {n N : Nat} {ds : List D} {vs : List V} {F H : Hp} (hl : ds.length = n) (s : Same F H) (r : Reps Γ F ds vs) : ER Γ ⟨H, F, none⟩ (env0 n N ds) (vs.map some ++ List.replicate (N - vs.length) none) F H := by
  have hv : vs.length = n := r.length.trans hl
  have own : ∀ (i : Nat) d, (env0 n N ds)[i]? = some (.own d) → False := fun i d q => by
    unfold env0 at q
    rcases List.mem_append.mp (List.mem_of_getElem? q) with z | z
    · obtain ⟨a, _, e⟩ := List.mem_map.mp z; cases e
    · cases List.eq_of_mem_replicate z
  refine ⟨?_, s, Same.refl _, Same.refl _, fun p o q => .inl q, fun i sl q => ?_, fun i j a di dj q => (own i di q).elim, fun x d h => nomatch h⟩
  · simp [env0, hv, hl]
  · unfold env0 at q
    by_cases hi : i < n
    · rw [List.getElem?_append_left (by simp [hl, hi]), List.getElem?_map] at q
      cases z : ds[i]? with
      | none => rw [z] at q; cases q
      | some d =>
        rw [z] at q; cases q
        obtain ⟨v, hv', rv⟩ := r.get z
        exact ⟨some v, by rw [List.getElem?_append_left (by simp [hv, hi]), List.getElem?_map, hv']; rfl, v, rfl, rv⟩
    · have hlt : i < (ds.map Slot.val ++ List.replicate (N - n) Slot.un).length := (List.getElem?_eq_some_iff.mp q).1
      simp only [List.length_append, List.length_map, List.length_replicate, hl] at hlt
      rw [List.getElem?_append_right (by simp [hl]; omega), List.getElem?_replicate] at q
      split at q
      · cases q
        exact ⟨none, by rw [List.getElem?_append_right (by simp [hv]; omega), List.getElem?_replicate, if_pos (by simp [hv]; omega)], trivial⟩
      · cases q
theorem ER.out {n N : Nat} {env : Env} {σ : L2.St} {F H F' H' : Hp} (e : ER Γ ⟨H, F, none⟩ env σ F' H') (s : Same F F') : Gr F H F' H' := ⟨s, e.fh, e.bh, e.fr⟩
theorem fn_ok {x qual : Str} {st : Stmt} {f : Addr} {fd : FuncData} {N ps : List Str} {k : Nat} {den : Env → Out} (F : Fun K x qual st f fd) (S : FnScope N ps (defScope st))
    (body : ∀ (cdv : Value) (A : Around) (outer : List PySem.Env) (s : Shared) (H : Hp) (E : XK), Room k (A.deeper (envOfC qual (defScope st) s.heap.objs.size f cdv)) →
      PSs (cxOf (L2.CX P w) P w K mg base N qual (defScope st) f cdv A outer s H E) (defBody st) (tS Γ (fun c d _ H => E c d H) den)) :
    FnOk P w K mg base (L2.CX P w) (k + 1) f fd ps (spD Γ ps.length (dFn ps.length N.length den)) := by
  refine F.okX S (fun vs H Q E ⟨ds, F0, hl, s, r, _⟩ => by rw [r.length, hl]) (fun cdv A outer s H vs Q E hr h => ⟨_, body cdv A outer s H E hr, ?_⟩)
  obtain ⟨ds, F0, hl, sm, r, q⟩ := h
  refine ⟨⟨H, F0, none⟩, env0 ps.length N.length ds, F0, ?_, ?_⟩
  · have := er_start (Γ := Γ) (N := N.length) hl sm r
    exact this
  · unfold dFn at q
    cases z : den (env0 ps.length N.length ds) with
    | nx e => rw [z] at q; exact fun σ' F' H' s' er' => q .non F' H' (er'.out (n := 0) (N := 0) s') (by rw [Rep])
    | ret d => rw [z] at q; exact fun v e σ' F' H' s' er' r' => q v F' H' (er'.out (n := 0) (N := 0) s') r'
    | bk e => rw [z] at q; exact q.elim
    | ct e => rw [z] at q; exact q.elim
    | exc e c fs => rw [z] at q; exact fun σ' F' H' d s' er' x' => q F' H' d (er'.out (n := 0) (N := 0) s') x'
    | err => rw [z] at q; exact q.elim
/-- a def as callers take it: the missing arguments dfl are filled up -/
structure FnD (P : Program) (w : World) (K : PySem.W.Frag) (mg : Str → Option Value) (base : Heap) (Γ : Gm) (k : Nat) (f : Addr) (n : Nat) (dfl : List D) (g : List D → Res D) : Prop where
  ex : ∃ fd ps ds dvs, FnOk P w K mg base (L2.CX P w) k f fd ps (spD Γ n g) ∧ Binds K fd ps ds ∧ Vals dvs ds ∧ ∀ F, Reps Γ F dfl dvs
  kp : PySem.W.keepIn K (.ref f) = true
theorem FnD.mk0 {k n : Nat} {f : Addr} {fd : FuncData} {ps : List Str} {g : List D → Res D} (F : FnOk P w K mg base (L2.CX P w) k f fd ps (spD Γ n g)) (b : Binds K fd ps []) (kp : PySem.W.keepIn K (.ref f) = true) : FnD P w K mg base Γ k f n [] g :=
  ⟨⟨fd, ps, [], [], F, b, .nil, fun _ => .nil⟩, kp⟩
end
section
variable {X : Cx} {Γ : Gm} {W : WX} {k : Nat} {f : Addr} {n : Nat} {dfl : List D} {g : List D → Res D} {x : Str} {p pos : Pos} {e : Expr} {es : List Expr} {dl : Env → Res (List D)}
theorem run_fd (hF : FnD X.prog X.w X.K X.mg X.base Γ k f n dfl g) (hr : Room k X.A) (tk : Takes X W) {pins : List (Addr × Obj)} {σ : L2.St} {F H : Hp} {s : Shared} {Q : VK} {us : List Value} {vs : List V} {ds : List D}
    (I : Inv X pins σ H s) (r : Vals vs us) (hn : ds.length + dfl.length = n) (sm : Same F H) (rd : Reps Γ F ds vs) (h : post Γ W σ F H (g (ds ++ dfl)) (kE Γ Q)) : wpAny (model X.prog X.w) X.A (call (.ref f) us) (EP X pins σ Q) X.xe s := by
  obtain ⟨fd, ps, dus, dvs, F1, b, hv, hd⟩ := hF.ex
  have hsp : spD Γ n g (vs ++ dvs) H Q (WE W σ) := by
    refine ⟨ds ++ dfl, F, by rw [List.length_append]; exact hn, sm, rd.append (hd F), ?_⟩
    cases z : g (ds ++ dfl) with
    | ok d => rw [z] at h; exact fun v F' H' g r => h F' H' g v r
    | exc c fs => rw [z] at h; exact fun F' H' d g x => h F' H' d g x
    | err => rw [z] at h; exact h.elim
  have r2 : Vals (vs ++ dvs) (us ++ dus) := r.append hv
  have hl : (us ++ dus).length = ps.length := by rw [← r2.length]; exact F1.len _ _ _ _ hsp
  refine wpAny_call (codeAny_mono (F1.run X.A X.stack s H ⟨us, []⟩ (us ++ dus) (vs ++ dvs) Q (WE W σ) hr I.env0 (b s us I.kIn hl) r2 hsp) fun r s' hq => ?_)
  cases r with
  | error e => exact passAt tk σ pins H s e s' I hq
  | ok fl =>
    cases fl with
    | ret u => exact I.after hq
    | next => exact False.elim hq
    | brk => exact False.elim hq
    | cont => exact False.elim hq
def dCall (n : Nat) (dfl : List D) (g : List D → Res D) (dl : Env → Res (List D)) : Env → Res D := fun env => (dl env).bind fun ds => if ds.length + dfl.length = n then g (ds ++ dfl) else .err
theorem e_call (hF : FnD X.prog X.w X.K X.mg X.base Γ k f n dfl g) (hr : Room k X.A) (tk : Takes X W) (hg : Gl X x) (hm : X.mg x = some (.ref f))
    (ha : PA X (e :: es) (tA Γ W dl)) (hdb : (x == ("__debug__" : Str)) = false := by decide) (he : starEach (e :: es) X.env = (false, eval e X.env) :: starEach es X.env := by rfl) (hpl : (backTo pos (starEach es X.env)).any (·.1) = false := by rfl) :
    PE X (.Call (.Name x p) (e :: es) [] pos) (tE Γ W (dCall n dfl g dl)) := by
  refine ⟨fun pins s σ H Q I ⟨G, env, F, er, h⟩ => ?_⟩
  refine wpAny_Call_Name_kw (ld_glob I hg hm ?_ hdb)
  have hh := ha.run pos pins s σ H (fun vs H1 => ∃ F1 ds, ER Γ G env σ F1 H1 ∧ Reps Γ F1 ds vs ∧ post Γ W σ F1 H1 (if ds.length + dfl.length = n then g (ds ++ dfl) else .err) (kE Γ Q)) I ⟨G, env, F, er, h.bind.imp fun ds F1 H1 _ g1 h1 vs r => ⟨F1, ds, er.gr g1, r, h1⟩⟩
  refine PySem.W.callWith_K (h₀ := X.base) I.ok.mod.kin hF.kp (thn hh fun us s1 ⟨vs, H1, I1, r, F1, ds, er1, rd, q⟩ => ⟨I1.kIn, ?_⟩) he hpl
  split at q
  · rename_i hn
    exact run_fd hF hr tk I1 r hn er1.fh rd q
  · exact q.elim
theorem e_call0 (hF : FnD X.prog X.w X.K X.mg X.base Γ k f n dfl g) (hr : Room k X.A) (tk : Takes X W) (hg : Gl X x) (hm : X.mg x = some (.ref f)) (hdb : (x == ("__debug__" : Str)) = false := by decide) :
    PE X (.Call (.Name x p) [] [] pos) (tE Γ W (dCall n dfl g dNil)) := by
  refine ⟨fun pins s σ H Q I ⟨G, env, F, er, h⟩ => ?_⟩
  refine wpAny_Call_Name_kw (ld_glob I hg hm ?_ hdb)
  refine PySem.W.callWith_K0 I.kIn hF.kp ?_
  unfold dCall dNil at h
  simp only [Res.bind_ok] at h
  split at h
  · rename_i hn
    exact run_fd (vs := []) (ds := []) (us := []) hF hr tk I .nil hn er.fh .nil h
  · exact h.elim

/-! ### built-ins by values -/
/-- a call by values gives a thing | a new object -/
def CaS (Γ : Gm) (r : List V → Hp → VK → Prop) (f : List D → Option D) : Prop := ∀ {F H : Hp} {ds : List D} {vs : List V} {Q : VK} {d : D}, Same F H → Paired (fun d v => RepT Γ F H d v) ds vs → f ds = some d →
  (∀ u F' H', Gr F H F' H' → Rep Γ F' d u → Q u H') → r vs H Q
def CaN (Γ : Gm) (r : List V → Hp → VK → Prop) (f : List D → Option D) : Prop := ∀ {F H : Hp} {ds : List D} {vs : List V} {Q : VK} {d : D}, Same F H → Paired (fun d v => RepT Γ F H d v) ds vs → f ds = some d →
  (∀ p F' H', Gr F H F' H' → F' p = none → H p = none → Top Γ F' H' p d → Q (.ref p) H') → r vs H Q
/-- arguments that are looked at alone -/
def tAW (Γ : Gm) (W : WX) (den : Env → Res (List D)) : TA := fun σ H Q => ∃ G env F, ER Γ G env σ F H ∧ post Γ W σ F H (den env) fun ds F' H' => ∀ vs, Paired (fun d v => RepT Γ F' H' d v) ds vs → Q vs H'
theorem Paired.mono' {α β : Type} {R R' : α → β → Prop} (h : ∀ a b, R a b → R' a b) : ∀ {xs : List α} {ys : List β}, Paired R xs ys → Paired R' xs ys
  | _, _, .nil => .nil
  | _, _, .cons r t => .cons (h _ _ r) (Paired.mono' h t)
theorem aw_nil : PA X [] (tAW Γ W dNil) := PA.w pa_nil fun σ H Q ⟨G, env, F, er, h⟩ => post.ok (W := W) er h [] .nil
theorem aw_cons {da : Env → Res D} {dr : Env → Res (List D)} (ha : PE X e (tW Γ W da)) (hr : PA X es (tAW Γ W dr)) (hs : starEach (e :: es) X.env = (false, eval e X.env) :: starEach es X.env := by rfl) :
    PA X (e :: es) (tAW Γ W (dCons da dr)) := PA.w (pa_cons ha hr hs) fun σ H Q ⟨G, env, F, er, h⟩ => by
  refine ⟨G, env, F, er, h.bind.imp fun d F1 H1 _ g1 h1 v r1 => ⟨G, env, F1, er.gr g1, h1.bind.imp fun ds F2 H2 _ g2 h2 vs r2 => ?_⟩⟩
  exact h2.ok ((er.gr g1).gr g2) _ (.cons (r1.gr g2) r2)
def dBi (f : List D → Option D) (dl : Env → Res (List D)) : Env → Res D := fun env => (dl env).bind fun ds => op? (f ds)
theorem bi_s {r : List V → Hp → VK → Prop} {f : List D → Option D} {σ : L2.St} {H : Hp} {Q : VK} (hr : CaS Γ r f) (h : tE Γ W (dBi f dl) σ H Q) : tAW Γ W dl σ H fun vs H1 => r vs H1 Q := by
  obtain ⟨G, env, F, er, h⟩ := h
  refine ⟨G, env, F, er, h.bind.imp fun ds F1 H1 _ g1 h1 vs rv => ?_⟩
  cases z : f ds with
  | none => rw [z] at h1; exact h1.elim
  | some d => rw [z] at h1; exact hr (er.gr g1).fh rv z fun u F' H' g r => h1 F' H' g u r
theorem bi_n {r : List V → Hp → VK → Prop} {f : List D → Option D} {σ : L2.St} {H : Hp} {Q : VK} (hr : CaN Γ r f) (h : tN Γ W (dBi f dl) σ H Q) : tAW Γ W dl σ H fun vs H1 => r vs H1 Q := by
  obtain ⟨G, env, F, er, h⟩ := h
  refine ⟨G, env, F, er, h.bind.imp fun ds F1 H1 _ g1 h1 vs rv => ?_⟩
  cases z : f ds with
  | none => rw [z] at h1; exact h1.elim
  | some d => rw [z] at h1; exact hr (er.gr g1).fh rv z fun p F' H' g fp hp t => h1 F' H' g p (gr_none g1 hp) fp t
variable {id T : String} {r : List V → Hp → VK → Prop} {fb : List D → Option D}
theorem e_bi (hc : CallR X (.builtin id) r) (hs : CaS Γ r fb) (hg : Gl X x) (hm : X.mg x = none) (hv : bootBuiltins x = some (.builtin id)) (ha : PA X (e :: es) (tAW Γ W dl)) (hn : x ≠ "__name__" := by decide) (hdb : (x == ("__debug__" : Str)) = false := by decide)
    (he : starEach (e :: es) X.env = (false, eval e X.env) :: starEach es X.env := by rfl) (hpl : (backTo pos (starEach es X.env)).any (·.1) = false := by rfl) : PE X (.Call (.Name x p) (e :: es) [] pos) (tE Γ W (dBi fb dl)) :=
  PE.w (pe_callB hc hg hm hv ha hn hdb he hpl) fun σ H Q h => bi_s hs h
theorem e_bty (hc : CallR X (.type T) r) (hs : CaS Γ r fb) (hg : Gl X x) (hm : X.mg x = none) (hv : bootBuiltins x = some (.type T)) (ha : PA X (e :: es) (tAW Γ W dl)) (hn : x ≠ "__name__" := by decide) (hdb : (x == ("__debug__" : Str)) = false := by decide)
    (he : starEach (e :: es) X.env = (false, eval e X.env) :: starEach es X.env := by rfl) (hpl : (backTo pos (starEach es X.env)).any (·.1) = false := by rfl) : PE X (.Call (.Name x p) (e :: es) [] pos) (tE Γ W (dBi fb dl)) :=
  PE.w (pe_callTy hc hg hm hv ha hn hdb he hpl) fun σ H Q h => bi_s hs h
theorem n_bty (hc : CallR X (.type T) r) (hs : CaN Γ r fb) (hg : Gl X x) (hm : X.mg x = none) (hv : bootBuiltins x = some (.type T)) (ha : PA X (e :: es) (tAW Γ W dl)) (hn : x ≠ "__name__" := by decide) (hdb : (x == ("__debug__" : Str)) = false := by decide)
    (he : starEach (e :: es) X.env = (false, eval e X.env) :: starEach es X.env := by rfl) (hpl : (backTo pos (starEach es X.env)).any (·.1) = false := by rfl) : PE X (.Call (.Name x p) (e :: es) [] pos) (tN Γ W (dBi fb dl)) :=
  PE.w (pe_callTy hc hg hm hv ha hn hdb he hpl) fun σ H Q h => bi_n hs h
/-- len -/
def bLen : List D → Option D
  | [.lst ds] => some (.int ds.length)
  | [.tup ds] => some (.int ds.length)
  | [.scr ns] => some (.int ns.length)
  | [.str z] => some (.int z.length)
  | _ => none
theorem one_pair {F H : Hp} {d : D} {vs : List V} (h : Paired (fun d v => RepT Γ F H d v) [d] vs) : ∃ v, vs = [v] ∧ RepT Γ F H d v := by
  cases h with | cons r t => cases t; exact ⟨_, rfl, r⟩
theorem two_pair {F H : Hp} {d d' : D} {vs : List V} (h : Paired (fun d v => RepT Γ F H d v) [d, d'] vs) : ∃ v v', vs = [v, v'] ∧ RepT Γ F H d v ∧ RepT Γ F H d' v' := by
  cases h with | cons r t => cases t with | cons r' t => cases t; exact ⟨_, _, rfl, r, r'⟩
theorem cas_len : CaS Γ (fun xs H Q => ∃ x n, xs = [x] ∧ LenV Γ.K x H n ∧ Q (.int n) H) bLen := fun {F H ds vs Q d} s rv e k => by
  unfold bLen at e
  split at e
  · rename_i ds; cases e
    obtain ⟨v, rfl, r⟩ := one_pair rv
    obtain ⟨a, ws, rfl, q, l, rr⟩ := r.lst s
    exact ⟨_, ds.length, rfl, .inl ⟨ws, SqL.of q, rr.length.symm⟩, k _ F H (Gr.refl s) rep_int⟩
  · rename_i ds; cases e
    obtain ⟨v, rfl, r⟩ := one_pair rv
    obtain ⟨a, ws, rfl, q, l, rr⟩ := r.tup s
    exact ⟨_, ds.length, rfl, .inr ⟨ws, q, rr.length.symm⟩, k _ F H (Gr.refl s) rep_int⟩
  · rename_i ns; cases e
    obtain ⟨v, rfl, r⟩ := one_pair rv
    obtain ⟨a, rfl, l, q⟩ := r.scr s
    exact ⟨_, ns.length, rfl, .inl ⟨_, q, by simp⟩, k _ F H (Gr.refl s) rep_int⟩
  · rename_i z; cases e
    obtain ⟨v, rfl, r⟩ := one_pair rv
    obtain ⟨rfl, o⟩ := r.str
    exact ⟨_, z.length, rfl, ⟨sOk_len o, rfl⟩, k _ F H (Gr.refl s) rep_int⟩
  · cases e
theorem e_len (hk : Γ.K = X.K) (hg : Gl X "len") (hm : X.mg "len" = none) (ha : PA X (e :: es) (tAW Γ W dl)) (he : starEach (e :: es) X.env = (false, eval e X.env) :: starEach es X.env := by rfl) (hpl : (backTo pos (starEach es X.env)).any (·.1) = false := by rfl) :
    PE X (.Call (.Name "len" p) (e :: es) [] pos) (tE Γ W (dBi bLen dl)) := e_bi (r := fun xs H Q => ∃ x n, xs = [x] ∧ LenV Γ.K x H n ∧ Q (.int n) H) (by rw [hk]; exact call_len) cas_len hg hm PySem.boot_len ha (by decide) (by decide) he hpl
/-- all, any -/
def bools : List D → Option (List Bool)
  | [] => some []
  | .bl b :: ds => (bools ds).map fun bs => b :: bs
  | _ => none
def bAll : List D → Option D
  | [.lst ds] => (bools ds).map fun bs => .bl (bs.all _root_.id)
  | _ => none
def bAny : List D → Option D
  | [.lst ds] => (bools ds).map fun bs => .bl (bs.any _root_.id)
  | _ => none
theorem reps_bools {F : Hp} : ∀ {ds : List D} {vs : List V} {bs : List Bool}, Reps Γ F ds vs → bools ds = some bs → vs = bs.map V.bl
  | [], vs, bs, r, e => by simp only [bools] at e; cases e; exact r.nil_inv
  | d :: ds, vs, bs, r, e => by
    obtain ⟨v, vr, rfl, r1, r2⟩ := r.cons_inv
    cases d <;> try (simp [bools] at e; done)
    rename_i b
    simp only [bools, Option.map_eq_some_iff] at e
    obtain ⟨bs', e, rfl⟩ := e
    rw [Rep] at r1
    rw [r1, reps_bools r2 e]; rfl
theorem cas_all : CaS Γ (rAll Γ.K) bAll := fun {F H ds vs Q d} s rv e k => by
  unfold bAll at e
  split at e
  · rename_i ds
    simp only [Option.map_eq_some_iff] at e
    obtain ⟨bs, e, rfl⟩ := e
    obtain ⟨v, rfl, r⟩ := one_pair rv
    obtain ⟨a, ws, rfl, q, l, rr⟩ := r.lst s
    exact ⟨a, bs, rfl, by rw [← reps_bools rr e]; exact SqL.of q, k _ F H (Gr.refl s) rep_bl⟩
  · cases e
theorem cas_any : CaS Γ (rAny Γ.K) bAny := fun {F H ds vs Q d} s rv e k => by
  unfold bAny at e
  split at e
  · rename_i ds
    simp only [Option.map_eq_some_iff] at e
    obtain ⟨bs, e, rfl⟩ := e
    obtain ⟨v, rfl, r⟩ := one_pair rv
    obtain ⟨a, ws, rfl, q, l, rr⟩ := r.lst s
    exact ⟨a, bs, rfl, by rw [← reps_bools rr e]; exact SqL.of q, k _ F H (Gr.refl s) rep_bl⟩
  · cases e
theorem e_all (hk : Γ.K = X.K) (hc : X.calm = true) (hg : Gl X "all") (hm : X.mg "all" = none) (ha : PA X (e :: es) (tAW Γ W dl)) (he : starEach (e :: es) X.env = (false, eval e X.env) :: starEach es X.env := by rfl) (hpl : (backTo pos (starEach es X.env)).any (·.1) = false := by rfl) :
    PE X (.Call (.Name "all" p) (e :: es) [] pos) (tE Γ W (dBi bAll dl)) := e_bi (r := rAll Γ.K) (by rw [hk]; exact cr_all hc) cas_all hg hm (by decide +kernel) ha (by decide) (by decide) he hpl
theorem e_any (hk : Γ.K = X.K) (hc : X.calm = true) (hg : Gl X "any") (hm : X.mg "any" = none) (ha : PA X (e :: es) (tAW Γ W dl)) (he : starEach (e :: es) X.env = (false, eval e X.env) :: starEach es X.env := by rfl) (hpl : (backTo pos (starEach es X.env)).any (·.1) = false := by rfl) :
    PE X (.Call (.Name "any" p) (e :: es) [] pos) (tE Γ W (dBi bAny dl)) := e_bi (r := rAny Γ.K) (by rw [hk]; exact cr_any hc) cas_any hg hm (by decide +kernel) ha (by decide) (by decide) he hpl
/-- isinstance of things that are no instances of own classes, by built-in classes -/
def tyN : D → Option String
  | .non => some "NoneType" | .bl _ => some "bool" | .int _ => some "int" | .str _ => some "str" | .lst _ => some "list" | .scr _ => some "list" | .tup _ => some "tuple" | .dic _ _ => some "dict"
  | _ => none
def tyKnown : List String := ["NoneType", "bool", "int", "str", "list", "tuple", "dict"]
def subB (a b : String) : Bool := a == b || (a == "bool" && b == "int")
theorem kit_known : ∀ a ∈ tyKnown, ∀ b ∈ tyKnown, kitB a b = some (subB a b) := by decide +kernel
theorem tyN_known {d : D} {a : String} (h : tyN d = some a) : a ∈ tyKnown := by
  cases d <;> simp only [tyN] at h <;> cases h <;> decide
theorem tyX_of {F H : Hp} {d : D} {v : V} {a : String} (s : Same F H) (r : RepT Γ F H d v) (h : tyN d = some a) : TyX Γ.K H v (.type a) := by
  cases d <;> simp only [tyN] at h <;> cases h
  · rw [r.non]; exact .base .non
  · rw [r.bl]; exact .base (.bl _)
  · rw [r.int]; exact .base (.int _)
  · rw [r.str.1]; exact .base (.str _)
  · rcases r with r | ⟨_, _, t⟩
    · rw [Rep] at r
      obtain ⟨a, rfl, l, q, z⟩ := r
      rcases z with ⟨xs, z⟩ | ⟨o, xs, z⟩ | ⟨o, z, c⟩
      · exact .base (.lst (s _ _ z))
      · exact .base (.frz (s _ _ z))
      · exact .kList z c
    · exact t.elim
  · obtain ⟨a, ws, rfl, q, l, rr⟩ := r.lst s
    exact .base (.lst q)
  · obtain ⟨a, ws, rfl, q, l, rr⟩ := r.tup s
    rcases q with (q | ⟨o, q⟩) | ⟨o, its, n, q, c, _⟩
    · exact .base (.tup q)
    · exact .fTuple q
    · exact .kTuple q c
  · rcases r with r | ⟨a, rfl, kvs, q, _⟩
    · rw [Rep] at r
      obtain ⟨a, kvs, rfl, q, _⟩ := r
      exact .base (.dK (s _ _ q))
    · exact .base (.dK q)
def bIsB (b : String) (d : D) : Option D := if b ∈ tyKnown then (tyN d).map fun a => .bl (subB a b) else none
theorem e_isB {b : String} {y : Str} {p2 : Pos} {da : Env → Res D} (hk : Γ.K = X.K) (hg : Gl X "isinstance") (hm : X.mg "isinstance" = none) (ha : PE X e (tW Γ W da)) (hg2 : Gl X y) (hm2 : X.mg y = none) (hv : bootBuiltins y = some (.type b)) (hn : y ≠ "__name__" := by decide) (hdb : (y == ("__debug__" : Str)) = false := by decide)
    (hs : starEach [e, .Name y p2] X.env = (false, eval e X.env) :: starEach [.Name y p2] X.env := by rfl) (hpl : (backTo pos (starEach [.Name y p2] X.env)).any (·.1) = false := by rfl) (hs2 : starEach [.Name y p2] X.env = (false, eval (.Name y p2) X.env) :: starEach [] X.env := by rfl) :
    PE X (.Call (.Name "isinstance" p) [e, .Name y p2] [] pos) (tE Γ W (dUn (bIsB b) da)) :=
  PE.w (pe_callB call_isi hg hm (by decide +kernel) (pa_cons ha (pa_cons (pe_bltn (v := .ty b) hg2 hm2 hv rfl hn hdb) pa_nil hs2) hs) (by decide) (by decide) hs hpl) fun σ H Q ⟨G, env, F, er, h⟩ => by
  refine ⟨G, env, F, er, h.bind.imp fun d F1 H1 _ g1 h1 v r => ?_⟩
  have er1 := er.gr g1
  unfold bIsB at h1
  split at h1
  · rename_i hb
    cases z : tyN d with
    | none => rw [z] at h1; exact h1.elim
    | some a =>
      rw [z] at h1
      exact ⟨v, .ty b, .type a, .type b, subB a b, rfl, .ty b, by rw [← hk]; exact tyX_of er1.fh r z, kit_ty (kit_known a (tyN_known z) b hb), h1.ok er1 _ rep_bl⟩
  · exact h1.elim

/-! ### methods of texts -/
def mUpper : D → Option D
  | .str z => if z.length ≤ 5592405 ∧ sOk (Txt.upper z) = true then some (.str (Txt.upper z)) else none
  | _ => none
theorem e_upper {apos cpos : Pos} {da : Env → Res D} (ha : PE X e (tE Γ W da)) (hbase : attributeBase e "upper" X.env (eval e X.env) = eval e X.env := by rfl) (hline : (apos.endLine == cpos.line) = true := by rfl) : PE X (.Call (.Attribute e "upper" apos) [] [] cpos) (tE Γ W (dUn mUpper da)) :=
  PE.w (pe_upper ha hbase hline) fun σ H Q ⟨G, env, F, er, h⟩ => by
  refine ⟨G, env, F, er, h.bind.imp fun d F1 H1 _ g1 h1 v r => ?_⟩
  cases d <;> try exact h1.elim
  rw [Rep] at r
  obtain ⟨rfl, o⟩ := r
  unfold mUpper at h1
  simp only at h1
  split at h1
  · rename_i hl
    exact ⟨⟨_, rfl⟩, _, rfl, rfl, hl.1, h1.ok (er.gr g1) _ (by rw [Rep]; exact ⟨rfl, hl.2⟩)⟩
  · exact h1.elim
end

end Dn

/-! Den10.lean -/
namespace Dn
open PySem PySem.Spec PyProof.Rows L2

/-! ### a name's own list is changed -/
section
variable {X : Cx} {Γ : Gm} {W : WX} {x : Str} {p pos apos cpos : Pos} {e : Expr} {es : List Expr} {da : Env → Res D} {dl : Env → Res (List D)} {i : Nat}
theorem own_at {G : Gd} {env : Env} {σ : L2.St} {F H : Hp} {d : D} (er : ER Γ G env σ F H) (h : env[i]? = some (.own d)) : ∃ a, σ[i]? = some (some (.ref a)) ∧ F a = none ∧ Top Γ F H a d := by
  obtain ⟨y, hy, a, e1, f, b, t⟩ := er.sl i _ h
  subst e1
  exact ⟨a, hy, f, t⟩
/-- a statement o.m(..) on the own list of slot i -/
def dMut (i : Nat) (f : List D → List D → Option (List D)) (dl : Env → Res (List D)) : Env → Out := fun env => match env[i]? with
  | some (.own (.lst ds)) => match dl env with
    | .ok as => match f ds as with
      | some ds' => .nx (env.set i (.own (.lst ds')))
      | none => .err
    | .exc c fs => .exc env c fs
    | .err => .err
  | _ => .err
def MuS (Γ : Gm) (r : V → List V → Hp → VK → Prop) (f : List D → List D → Option (List D)) : Prop := ∀ {F H : Hp} {a : Addr} {ds as ds' : List D} {vs ws : List V} {Q : VK}, Same F H → F a = none → H a = some (.lst vs) → Reps Γ F ds vs → ds.length ≤ sizeLine →
  Reps Γ F as ws → f ds as = some ds' → (∀ v vs', ds'.length ≤ sizeLine → Reps Γ F ds' vs' → Q v (upd H a (.lst vs'))) → r (.ref a) ws H Q
theorem s_mut {r : V → List V → Hp → VK → Prop} {f : List D → List D → Option (List D)} {st : Stmt} (hst : ∀ t, PA X es t → PS X st (tDrop (tBM X.K "list" r (tVar i) t))) (hr : MuS Γ r f) (ha : PA X es (tA Γ W dl)) : PS X st (tS Γ W (dMut i f dl)) :=
  PS.w (hst _ ha) fun Dd σ H ⟨G, env, F, er, q⟩ => by
  unfold dMut at q
  split at q
  · rename_i ds hown
    obtain ⟨a, hσ, fa, vs, hv, hl, rr⟩ := own_at er hown
    refine ⟨.ref a, hσ, .inl ⟨rfl, vs, SqL.of hv⟩, G, env, F, er, ?_⟩
    cases z : dl env with
    | err => rw [z] at q; exact q.elim
    | exc c fs => rw [z] at q; exact fun F' H' d g x => q σ F' H' d g.ff (er.gr g) x
    | ok as =>
      rw [z] at q
      intro F1 H1 g1 ws ra
      simp only at q
      have er1 := er.gr g1
      obtain ⟨a', hσ', fa', vs', hv', hl', rr'⟩ := own_at er1 hown
      rw [hσ] at hσ'; cases hσ'
      cases z2 : f ds as with
      | none => rw [z2] at q; exact q.elim
      | some ds' =>
        rw [z2] at q
        refine hr er1.fh fa' hv' rr' hl' ra z2 fun v vs2 l2 r2 => ?_
        exact q σ F1 _ g1.ff (er1.write hown hσ ⟨vs2, upd_same, l2, r2⟩)
  · exact q.elim
theorem s_mut0 {r : V → List V → Hp → VK → Prop} {f : List D → List D → Option (List D)} {st : Stmt} (hst : PS X st (tDrop (tBM0 X.K "list" r (tVar i)))) (hr : MuS Γ r f) : PS X st (tS Γ W (dMut i f dNil)) :=
  PS.w hst fun Dd σ H ⟨G, env, F, er, q⟩ => by
  unfold dMut dNil at q
  split at q
  · rename_i ds hown
    obtain ⟨a, hσ, fa, vs, hv, hl, rr⟩ := own_at er hown
    refine ⟨.ref a, hσ, .inl ⟨rfl, vs, SqL.of hv⟩, ?_⟩
    simp only at q
    cases z2 : f ds [] with
    | none => rw [z2] at q; exact q.elim
    | some ds' =>
      rw [z2] at q
      exact hr er.fh fa hv rr hl .nil z2 fun v vs2 l2 r2 => q σ F _ (Same.refl _) (er.write hown hσ ⟨vs2, upd_same, l2, r2⟩)
  · exact q.elim
def fAppend : List D → List D → Option (List D) := fun ds as => match as with
  | [d] => if ds.length < sizeLine then some (ds ++ [d]) else none
  | _ => none
theorem mu_append : MuS Γ rAppend fAppend := fun {F H a ds as ds' vs ws Q} s fa hv rr hl ra e k => by
  unfold fAppend at e
  split at e
  · rename_i d
    split at e
    · rename_i hlt; cases e
      obtain ⟨v, r', rfl, r1, r2⟩ := ra.cons_inv
      rw [r2.nil_inv]
      exact ⟨a, vs, v, rfl, rfl, hv, by rw [rr.length]; exact hlt, k _ _ (by simp; omega) (rr.append (.cons r1 .nil))⟩
    · cases e
  · cases e
def fExtend : List D → List D → Option (List D) := fun ds as => match as with
  | [.lst es] => if ds.length + es.length ≤ sizeLine then some (ds ++ es) else none
  | _ => none
theorem mu_extend : MuS Γ rExtend fExtend := fun {F H a ds as ds' vs ws Q} s fa hv rr hl ra e k => by
  unfold fExtend at e
  split at e
  · rename_i es
    split at e
    · rename_i hlt; cases e
      obtain ⟨v, r', rfl, r1, r2⟩ := ra.cons_inv
      rw [r2.nil_inv]
      rw [Rep] at r1
      obtain ⟨b, us, rfl, q, l, re⟩ := r1
      exact ⟨a, b, vs, us, rfl, rfl, hv, s _ _ q, by rw [rr.length, re.length]; exact hlt, k _ _ (by simp; exact hlt) (rr.append re)⟩
    · cases e
  · cases e
def fPop : List D → List D → Option (List D) := fun ds as => match as with
  | [] => if ds = [] then none else some ds.dropLast
  | _ => none
theorem mu_pop : MuS Γ rPop fPop := fun {F H a ds as ds' vs ws Q} s fa hv rr hl ra e k => by
  unfold fPop at e
  split at e
  · rw [ra.nil_inv]
    split at e
    · cases e
    · rename_i hne; cases e
      have hv0 : vs.length - 1 < vs.length := by
        have := rr.length
        have : ds.length ≠ 0 := fun z => hne (List.length_eq_zero_iff.mp z)
        omega
      exact ⟨a, vs, vs[vs.length - 1], rfl, rfl, hv, by simp [hv0], k _ _ (by simp; omega) rr.dropLast⟩
  · cases e
def fClear : List D → List D → Option (List D) := fun _ as => match as with | [] => some [] | _ => none
theorem mu_clear : MuS Γ rClear fClear := fun {F H a ds as ds' vs ws Q} s fa hv rr hl ra e k => by
  unfold fClear at e
  split at e
  · cases e; rw [ra.nil_inv]
    exact ⟨a, vs, rfl, rfl, hv, k .non [] (Nat.zero_le _) .nil⟩
  · cases e
def fReverse : List D → List D → Option (List D) := fun ds as => match as with | [] => some ds.reverse | _ => none
theorem mu_reverse : MuS Γ rReverse fReverse := fun {F H a ds as ds' vs ws Q} s fa hv rr hl ra e k => by
  unfold fReverse at e
  split at e
  · cases e; rw [ra.nil_inv]
    exact ⟨a, vs, rfl, rfl, hv, k _ _ (by simp; exact hl) rr.reverse⟩
  · cases e
def dAppend (i : Nat) (da : Env → Res D) : Env → Out := dMut i fAppend (dCons da dNil)
def dExtend (i : Nat) (da : Env → Res D) : Env → Out := dMut i fExtend (dCons da dNil)
/-- target = value -/
def dAsg (t : Tg) (den : Env → Res D) : Env → Out := fun env => match den env with
  | .ok d => match t.f d env with
    | some e => .nx e
    | none => .err
  | .exc c fs => .exc env c fs
  | .err => .err
theorem s_asg {st : Stmt} {den : Env → Res D} {t : Tg} (h : ∀ te, PE X e te → PS X st (tAsg te (tG Γ t))) (he : PE X e (tE Γ W den)) : PS X st (tS Γ W (dAsg t den)) := PS.w (h _ he) fun Dd σ H ⟨G, env, F, er, q⟩ => by
  refine ⟨G, env, F, er, xpost (f := fun d => match t.f d env with | some e => .nx e | none => .err) _ er q fun d F' H' g e' q v r => ?_⟩
  refine ⟨G, env, F', d, e', r, ?_⟩
  cases z : t.f d env with
  | none => rw [z] at q; exact q.elim
  | some e2 => rw [z] at q; exact fun σ' er' _ => q σ' F' H' (Same.refl _) er'
/-- a, b = x, y -/
def dPar (i j : Nat) (dl : Env → Res (List D)) : Env → Out := fun env => match dl env with
  | .ok ds => match ds with
    | [a, b] => .nx ((env.set i (.val a)).set j (.val b))
    | _ => .err
  | .exc c fs => .exc env c fs
  | .err => .err
theorem s_par {st : Stmt} {j : Nat} (h : ∀ ta, PA X es ta → PS X st (tPar i j ta)) (ha : PA X es (tA Γ W dl)) : PS X st (tS Γ W (dPar i j dl)) := PS.w (h _ ha) fun Dd σ H ⟨G, env, F, er, q⟩ => by
  refine ⟨G, env, F, er, ?_⟩
  unfold dPar at q
  cases z : dl env with
  | err => rw [z] at q; exact q.elim
  | exc c fs => rw [z] at q; exact fun F' H' d g x => q σ F' H' d g.ff (er.gr g) x
  | ok ds =>
    rw [z] at q
    intro F' H' g vs r
    simp only at q
    split at q
    · obtain ⟨v, r', rfl, r1, r2⟩ := r.cons_inv
      obtain ⟨w, r'', rfl, r3, r4⟩ := r2.cons_inv
      rw [r4.nil_inv]
      exact ⟨v, w, rfl, q _ F' H' g.ff (((er.gr g).set i r1).set j r3)⟩
    · exact q.elim
/-- a module's text or number -/
theorem e_gstr {z : Str} {t : Tok} (hg : Gl X x) (hm : X.mg x = some (.str z t)) (h : sOk z = true := by decide +kernel) (hd : (x == ("__debug__" : Str)) = false := by decide) : PE X (.Name x p) (tE Γ W (dC (.str z))) := e_c (pe_glob (v := .str z) hg hm ⟨_, rfl⟩ hd) fun F => by rw [Rep]; exact ⟨rfl, h⟩
theorem e_gint {z : Int} {t : Tok} (hg : Gl X x) (hm : X.mg x = some (.int z t)) (hd : (x == ("__debug__" : Str)) = false := by decide) : PE X (.Name x p) (tE Γ W (dC (.int z))) := e_c (pe_glob (v := .int z) hg hm ⟨_, rfl⟩ hd) fun F => by rw [Rep]
/-- x in y -/
def D.sub1 : D → D → Option Bool
  | .str c, .str z => match c.cps.toList with
    | [k] => some (decide (k ∈ z.cps.toList))
    | _ => none
  | _, _ => none
def dInD (d : D) (y : D) : Option Bool := d.py.bind fun p => y.py.bind fun q => match q with
  | .list ps => if min (PyData.depthAll ps) p.depth ≤ 60 then some (ps.any fun z => PyData.eqv z p) else none
  | _ => none
def flatD : D → Bool
  | .non => true
  | .bl _ => true
  | .int _ => true
  | .str _ => true
  | _ => false
/-- == of flat things -/
def eqF : D → D → Bool
  | .non, .non => true
  | .bl a, .bl b => a == b
  | .bl a, .int b => (if a then 1 else 0) == b
  | .int a, .bl b => a == (if b then 1 else 0)
  | .int a, .int b => a == b
  | .str a, .str b => a == b
  | _, _ => false
def dInT (d : D) : D → Option Bool
  | .tup ds => if flatD d = true ∧ ds.all flatD = true then some (ds.any fun z => eqF z d) else none
  | _ => none
def dInB (x y : D) : Option Bool := ((D.sub1 x y).or (dInD x y)).or (dInT x y)
def dIn (x y : D) : Option D := (dInB x y).map D.bl
def dNotIn (x y : D) : Option D := (dInB x y).map fun k => D.bl (!k)
def rInM (K : PySem.W.Frag) (neg : Bool) : R2 := fun x y H Q => ∃ p qs, Dp K H x p ∧ Dp K H y (.list qs) ∧ p.canLay0 = true ∧ PyData.canLayAll0 qs = true ∧ min (PyData.depthAll qs) p.depth ≤ 60 ∧ Q (.bl (if neg then !(qs.any fun z => PyData.eqv z p) else qs.any fun z => PyData.eqv z p)) H
theorem op_inM (hu : X.A.units + 64 < cLine) : OpR X (compareOp .In) (rInM X.K false) := by
  intro pins s σ H x y v u Q I rx ry h
  obtain ⟨d, ds, hd, he, sd, se, hm, q⟩ := h
  obtain ⟨as, r1⟩ := Dp.reads I d x v hd rx
  obtain ⟨bs, r2⟩ := Dp.reads I (.list ds) y u he ry
  exact SeqAt.in_list_reads r2 r1 se sd (by omega) ⟨.bl _, H, I, rfl, q⟩
theorem op_notInM (hu : X.A.units + 64 < cLine) : OpR X (compareOp .NotIn) (rInM X.K true) := by
  intro pins s σ H x y v u Q I rx ry h
  obtain ⟨d, ds, hd, he, sd, se, hm, q⟩ := h
  obtain ⟨as, r1⟩ := Dp.reads I d x v hd rx
  obtain ⟨bs, r2⟩ := Dp.reads I (.list ds) y u he ry
  exact SeqAt.notIn_list_reads r2 r1 se sd (by omega) ⟨.bl _, H, I, rfl, q⟩
def rInS (neg : Bool) : R2 := fun x y H Q => ∃ (c : Nat) (z : Str), x = .str ⟨#[c]⟩ ∧ y = .str z ∧ Q (.bl (if neg then !decide (c ∈ z.cps.toList) else decide (c ∈ z.cps.toList))) H
theorem flat_rep {F H : Hp} {d : D} {v : V} (h : RepT Γ F H d v) (f : flatD d = true) : flatV v = true ∧ ∀ {d' : D} {v' : V}, RepT Γ F H d' v' → flatD d' = true → eqV v v' = eqF d d' := by
  have val : ∀ {d : D} {v : V}, RepT Γ F H d v → flatD d = true → (d = .non ∧ v = .non) ∨ (∃ b, d = .bl b ∧ v = .bl b) ∨ (∃ i, d = .int i ∧ v = .int i) ∨ ∃ z, d = .str z ∧ v = .str z := fun {d v} h f => by
    cases d <;> first | (cases f; done) | skip
    · exact .inl ⟨rfl, h.non⟩
    · exact .inr (.inl ⟨_, rfl, h.bl⟩)
    · exact .inr (.inr (.inl ⟨_, rfl, h.int⟩))
    · exact .inr (.inr (.inr ⟨_, rfl, h.str.1⟩))
  refine ⟨?_, fun {d' v'} h' f' => ?_⟩
  · rcases val h f with ⟨rfl, rfl⟩ | ⟨b, rfl, rfl⟩ | ⟨i, rfl, rfl⟩ | ⟨z, rfl, rfl⟩ <;> rfl
  · rcases val h f with ⟨rfl, rfl⟩ | ⟨b, rfl, rfl⟩ | ⟨i, rfl, rfl⟩ | ⟨z, rfl, rfl⟩ <;> rcases val h' f' with ⟨rfl, rfl⟩ | ⟨b', rfl, rfl⟩ | ⟨i', rfl, rfl⟩ | ⟨z', rfl, rfl⟩ <;> rfl
theorem flats_rep {F H : Hp} {d : D} {v : V} (h : RepT Γ F H d v) (f : flatD d = true) : ∀ {ds : List D} {vs : List V}, Reps Γ F ds vs → ds.all flatD = true → vs.all flatV = true ∧ (vs.any fun y => eqV y v) = ds.any fun z => eqF z d
  | [], _, r, _ => by rw [r.nil_inv]; exact ⟨rfl, rfl⟩
  | e :: ds, _, r, fs => by
    obtain ⟨u, r', rfl, r1, r2⟩ := r.cons_inv
    rw [List.all_cons, Bool.and_eq_true] at fs
    obtain ⟨a1, a2⟩ := flats_rep h f r2 fs.2
    obtain ⟨b1, b2⟩ := flat_rep (H := H) (.inl r1) fs.1
    exact ⟨by rw [List.all_cons, b1, a1]; rfl, by rw [List.any_cons, List.any_cons, b2 h f, a2]⟩
theorem in_core {F H : Hp} {x y : D} {v w : V} {b neg : Bool} {Q : VK} (s : Same F H) (rx : RepT Γ F H x v) (ry : RepT Γ F H y w) (e : dInB x y = some b) (k : Q (.bl (if neg then !b else b)) H) :
    rInS neg v w H Q ∨ rInM Γ.K neg v w H Q ∨ rIn Γ.K neg v w H Q := by
  unfold dInB at e
  cases z1 : D.sub1 x y with
  | some b1 =>
    rw [z1] at e; cases e
    unfold D.sub1 at z1
    split at z1
    · rename_i c z
      obtain ⟨e1, _⟩ := rx.str
      obtain ⟨e2, _⟩ := ry.str
      split at z1
      · rename_i kk hk; cases z1
        have : c = ⟨#[kk]⟩ := by
          cases c with | mk a => simp only at hk; congr; exact Array.ext' (by simpa using hk)
        subst this
        exact .inl ⟨kk, z, e1, e2, k⟩
      · cases z1
    · cases z1
  | none =>
    rw [z1] at e
    cases z2 : dInD x y with
    | some b2 =>
      rw [z2] at e; cases e
      simp only [dInD, Option.bind_eq_some_iff] at z2
      obtain ⟨p, h1, q, h2, z2⟩ := z2
      obtain ⟨a1, a2⟩ := dp_ofT s rx h1
      obtain ⟨b1, b2⟩ := dp_ofT s ry h2
      cases q <;> first | (cases z2; done) | skip
      rename_i qs
      simp only at z2
      split at z2
      · rename_i hm; cases z2
        exact .inr (.inl ⟨p, qs, a1, b1, a2, by rw [PyData.canLay0] at b2; exact b2, hm, k⟩)
      · cases z2
    | none =>
      rw [z2] at e
      simp only [Option.none_or] at e
      unfold dInT at e
      split at e
      · rename_i ds
        split at e
        · rename_i hf; cases e
          obtain ⟨a, vs, rfl, q, l, r⟩ := ry.tup s
          obtain ⟨h1, h2⟩ := flats_rep rx hf.1 r hf.2
          refine .inr (.inr ⟨a, vs, rfl, .inr q, (flat_rep rx hf.1).1, h1, ?_⟩)
          unfold inV
          rw [h2]; exact k
        · cases e
      · cases e
theorem ops_in : OpS Γ (fun x y H Q => rInS false x y H Q ∨ (rInM Γ.K false x y H Q ∨ rIn Γ.K false x y H Q)) dIn := fun {F H x y v w Q d} s rx ry e k => by
  simp only [dIn, Option.map_eq_some_iff] at e
  obtain ⟨b, e, rfl⟩ := e
  exact in_core s rx ry e (k _ F H (Gr.refl s) rep_bl)
theorem ops_notIn : OpS Γ (fun x y H Q => rInS true x y H Q ∨ (rInM Γ.K true x y H Q ∨ rIn Γ.K true x y H Q)) dNotIn := fun {F H x y v w Q d} s rx ry e k => by
  simp only [dNotIn, Option.map_eq_some_iff] at e
  obtain ⟨b, e, rfl⟩ := e
  exact in_core s rx ry e (k _ F H (Gr.refl s) rep_bl)
theorem in_rule (hk : Γ.K = X.K) (hu : X.A.units + 64 < cLine) : OpR X (compareOp .In) (fun x y H Q => rInS false x y H Q ∨ (rInM Γ.K false x y H Q ∨ rIn Γ.K false x y H Q)) := by
  rw [hk]; exact OpR.or (r := rInS false) op_in_sign (OpR.or (op_inM hu) op_in_seq)
theorem notIn_rule (hk : Γ.K = X.K) (hu : X.A.units + 64 < cLine) : OpR X (compareOp .NotIn) (fun x y H Q => rInS true x y H Q ∨ (rInM Γ.K true x y H Q ∨ rIn Γ.K true x y H Q)) := by
  rw [hk]; exact OpR.or (r := rInS true) op_notIn_sign (OpR.or (op_notInM hu) op_notIn_seq)
variable {a b : Expr} {db : Env → Res D}
theorem e_in (hk : Γ.K = X.K) (hu : X.A.units + 64 < cLine) (ha : PE X a (tW Γ W da)) (hb : PE X b (tW Γ W db)) (hm : behindInMarks .In b = false := by rfl) : PE X (.Compare a [.In] [b] pos) (tE Γ W (dBin dIn da db)) := e_cmp (in_rule hk hu) ops_in ha hb hm
theorem e_notIn (hk : Γ.K = X.K) (hu : X.A.units + 64 < cLine) (ha : PE X a (tW Γ W da)) (hb : PE X b (tW Γ W db)) (hm : behindInMarks .NotIn b = false := by rfl) : PE X (.Compare a [.NotIn] [b] pos) (tE Γ W (dBin dNotIn da db)) := e_cmp (notIn_rule hk hu) ops_notIn ha hb hm
theorem t_in (hk : Γ.K = X.K) (hu : X.A.units + 64 < cLine) (ha : PE X a (tW Γ W da)) (hb : PE X b (tW Γ W db)) (hm : behindInMarks .In b = false := by rfl) : PT X (.Compare a [.In] [b] pos) (tT Γ W (dT (dBin dIn da db))) := t_cmp (in_rule hk hu) ops_in ha hb hm
theorem t_notIn (hk : Γ.K = X.K) (hu : X.A.units + 64 < cLine) (ha : PE X a (tW Γ W da)) (hb : PE X b (tW Γ W db)) (hm : behindInMarks .NotIn b = false := by rfl) : PT X (.Compare a [.NotIn] [b] pos) (tT Γ W (dT (dBin dNotIn da db))) := t_cmp (notIn_rule hk hu) ops_notIn ha hb hm
end
end Dn

/-! Den11.lean -/
namespace Dn
open PySem PySem.Spec PyProof.Rows L2

/-! ### dicts by texts and ints -/
def keyD : D → Option Key
  | .str z => some (.inr z)
  | .int i => some (.inl i)
  | _ => none
/-- a dict's pairs -/
abbrev KD := List (Key × D)
def putD (m : KD) (k : Key) (d : D) : KD := if (m.any fun p => decide (p.1 = k)) = true then m.map (fun p => if p.1 = k then (p.1, d) else p) else m ++ [(k, d)]
def valD (m : KD) (k : Key) : Option D := (m.find? fun p => decide (p.1 = k)).map (·.2)
def D.dicOf (m : KD) : D := .dic (m.map (·.1)) (m.map (·.2))
def D.kd : D → Option KD
  | .dic ks ds => some (ks.zip ds)
  | _ => none
section
variable {X : Cx} {Γ : Gm} {W : WX} {x : Str} {p pos apos cpos : Pos} {e : Expr} {da db : Env → Res D} {dl : Env → Res (List D)} {i : Nat}
/-- pairs stand for pairs -/
def KR (Γ : Gm) (F : Hp) : KD → List (Key × V) → Prop := Paired fun p q => p.1 = q.1 ∧ Rep Γ F p.2 q.2
theorem KR.of {F : Hp} : ∀ {m : KD} {kvs : List (Key × V)}, kvs.map (·.1) = m.map (·.1) → Reps Γ F (m.map (·.2)) (kvs.map (·.2)) → KR Γ F m kvs
  | [], [], _, _ => .nil
  | [], _ :: _, h, _ => by cases h
  | _ :: _, [], h, _ => by cases h
  | p :: m, q :: kvs, h, r => by
    rw [List.map_cons, List.map_cons] at h r
    obtain ⟨v, vr, e, r1, r2⟩ := r.cons_inv
    injection h with h1 h2
    injection e with e1 e2
    subst e2
    exact .cons ⟨h1.symm, by rw [e1]; exact r1⟩ (KR.of h2 r2)
theorem KR.keys {F : Hp} {m : KD} {kvs : List (Key × V)} (h : KR Γ F m kvs) : kvs.map (·.1) = m.map (·.1) := by
  unfold KR at h
  induction h with
  | nil => rfl
  | cons r _ ih => rw [List.map_cons, List.map_cons, r.1, ih]
theorem KR.vals {F : Hp} {m : KD} {kvs : List (Key × V)} (h : KR Γ F m kvs) : Reps Γ F (m.map (·.2)) (kvs.map (·.2)) := by
  unfold KR at h
  induction h with
  | nil => exact .nil
  | cons r _ ih => exact .cons r.2 ih
theorem KR.mono {F F' : Hp} {m : KD} {kvs : List (Key × V)} (s : Same F F') (h : KR Γ F m kvs) : KR Γ F' m kvs := Paired.mono' (fun _ _ q => ⟨q.1, q.2.mono s⟩) h
theorem KR.any {F : Hp} {m : KD} {kvs : List (Key × V)} (k : Key) (h : KR Γ F m kvs) : (kvs.any fun q => decide (q.1 = k)) = m.any fun q => decide (q.1 = k) := by
  unfold KR at h
  induction h with
  | nil => rfl
  | cons r _ ih => rw [List.any_cons, List.any_cons, r.1, ih]
theorem KR.upd {F : Hp} {m : KD} {kvs : List (Key × V)} (k : Key) {d : D} {v : V} (rv : Rep Γ F d v) (h : KR Γ F m kvs) : KR Γ F (m.map (fun p => if p.1 = k then (p.1, d) else p)) (kvs.map fun p => if p.1 = k then (p.1, v) else p) := by
  unfold KR at h ⊢
  induction h with
  | nil => exact .nil
  | @cons a b as bs r _ ih =>
    rw [List.map_cons, List.map_cons]
    refine .cons ?_ ih
    by_cases hk : b.1 = k
    · rw [if_pos hk, if_pos (r.1.trans hk)]; exact ⟨r.1, rv⟩
    · rw [if_neg hk, if_neg (fun z => hk (r.1.symm.trans z))]; exact ⟨r.1, r.2⟩
theorem KR.app {F : Hp} {m : KD} {kvs : List (Key × V)} (k : Key) {d : D} {v : V} (rv : Rep Γ F d v) (h : KR Γ F m kvs) : KR Γ F (m ++ [(k, d)]) (kvs ++ [(k, v)]) := by
  unfold KR at h ⊢
  induction h with
  | nil => exact .cons ⟨rfl, rv⟩ .nil
  | cons r _ ih => exact .cons r ih
theorem KR.put {F : Hp} {m : KD} {kvs : List (Key × V)} (k : Key) {d : D} {v : V} (rv : Rep Γ F d v) (h : KR Γ F m kvs) : KR Γ F (putD m k d) (putK kvs k v) := by
  unfold putD putK
  rw [h.any k]
  split
  · exact h.upd k rv
  · exact h.app k rv
theorem KR.val {F : Hp} {m : KD} {kvs : List (Key × V)} (k : Key) (h : KR Γ F m kvs) : (valV kvs k = none ∧ valD m k = none) ∨ ∃ v d, valV kvs k = some v ∧ valD m k = some d ∧ Rep Γ F d v := by
  unfold KR at h
  induction h with
  | nil => exact .inl ⟨rfl, rfl⟩
  | @cons a b as bs r _ ih =>
    by_cases hk : b.1 = k
    · exact .inr ⟨b.2, a.2, valV_pos hk, by simp [valD, List.find?_cons, r.1, hk], r.2⟩
    · rw [valV_neg hk]
      have : valD (a :: as) k = valD as k := by simp [valD, List.find?_cons, r.1, hk]
      rw [this]; exact ih
theorem key_rep {F H : Hp} {d : D} {v : V} {k : Key} (r : RepT Γ F H d v) (h : keyD d = some k) : v = kV k := by
  cases d <;> simp only [keyD] at h <;> cases h
  · rw [r.int]; rfl
  · rw [r.str.1]; rfl
theorem KR.length {F : Hp} {m : KD} {kvs : List (Key × V)} (h : KR Γ F m kvs) : kvs.length = m.length := by
  have := h.keys
  have e := congrArg List.length this
  simpa using e
/-- a dict that is looked at -/
theorem dic_at {F H : Hp} {m : KD} {v : V} (s : Same F H) : RepT Γ F H (D.dicOf m) v → ∃ a kvs, v = .ref a ∧ H a = some (.dK kvs) ∧ kvs.length ≤ sizeLine ∧ KR Γ F m kvs
  | .inl h => by
    unfold D.dicOf at h
    rw [Rep] at h
    obtain ⟨a, kvs, rfl, q, e, l, r⟩ := h
    exact ⟨a, kvs, rfl, s _ _ q, l, KR.of e r⟩
  | .inr ⟨a, e1, kvs, q, e, l, r⟩ => ⟨a, kvs, e1, q, l, KR.of e r⟩
theorem top_dic {F H : Hp} {a : Addr} {m : KD} {kvs : List (Key × V)} (h : H a = some (.dK kvs)) (l : kvs.length ≤ sizeLine) (r : KR Γ F m kvs) : Top Γ F H a (D.dicOf m) := ⟨kvs, h, r.keys, l, r.vals⟩

/-- {} -/
theorem n_dic0 : PE X (.Dict [] [] pos) (tN Γ W (dC (D.dicOf []))) := PE.w pe_dnewK fun σ H Q ⟨G, env, F, er, h⟩ => fun q hq => by
  obtain ⟨g, fp⟩ := gr_new (o := .dK []) er.fh hq
  exact h F _ g q hq fp (top_dic upd_same (Nat.zero_le _) .nil)
/-- a written dict -/
def dPairs : List ((Env → Res D) × (Env → Res D)) → Env → Res KD
  | [], _ => .ok []
  | (a, b) :: r, env => (a env).bind fun x => (b env).bind fun y => (dPairs r env).bind fun m => op? ((keyD x).map fun k => (k, y) :: m)
def dDisp (prs : List ((Env → Res D) × (Env → Res D))) : Env → Res D := fun env => (dPairs prs env).bind fun m => if m.length ≤ 15 then .ok (D.dicOf (m.foldl (fun acc p => putD acc p.1 p.2) [])) else .err
def trE (Γ : Gm) (W : WX) (prs : List ((Env → Res D) × (Env → Res D))) : List (TE × TE) := prs.map fun p => (tE Γ W p.1, tE Γ W p.2)
theorem pairs_r {G : Gd} {env : Env} {σ : L2.St} : ∀ {prs : List ((Env → Res D) × (Env → Res D))} {F H : Hp} {Q : List (V × V) → Hp → Prop}, ER Γ G env σ F H →
    post Γ W σ F H (dPairs prs env) (fun m F' H' => ∀ kvs : List (Key × V), KR Γ F' m kvs → Q (kvs.map fun kv => (kV kv.1, kv.2)) H') → tPairs (trE Γ W prs) σ H Q
  | [], F, H, Q, er, h => post.ok (W := W) er h [] .nil
  | (a, b) :: prs, F, H, Q, er, h => by
    refine ⟨G, env, F, er, h.bind.imp fun x F1 H1 _ g1 h1 v r1 => ⟨G, env, F1, er.gr g1, h1.bind.imp fun y F2 H2 _ g2 h2 w r2 => ?_⟩⟩
    refine pairs_r ((er.gr g1).gr g2) (h2.bind.imp fun m F3 H3 _ g3 h3 kvs kr => ?_)
    cases z : keyD x with
    | none => rw [z] at h3; exact h3.elim
    | some k =>
      rw [z] at h3
      have e3 := ((er.gr g1).gr g2).gr g3
      have ek : v = kV k := key_rep (H := H1) (.inl r1) z
      subst ek
      exact h3.ok e3 ((k, w) :: kvs) (.cons ⟨rfl, r2.mono g3.ff⟩ kr)
theorem kr_merge {F : Hp} {m : KD} {kvs : List (Key × V)} (h : KR Γ F m kvs) : ∀ {acc : KD} {av : List (Key × V)}, KR Γ F acc av → KR Γ F (m.foldl (fun acc p => putD acc p.1 p.2) acc) (mergeK av kvs) := by
  unfold KR at h
  induction h with
  | nil => intro acc av h; exact h
  | @cons a b as bs r _ ih =>
    intro acc av h
    show KR Γ F (as.foldl (fun acc p => putD acc p.1 p.2) (putD acc a.1 a.2)) (mergeK (putK av b.1 b.2) bs)
    rw [← r.1]
    exact ih (h.put a.1 r.2)
theorem n_disp {keys : List (Option Expr)} {values : List Expr} {prs : List ((Env → Res D) × (Env → Res D))} (h : PPs X pos keys values (trE Γ W prs)) (hall : keys.all (·.isSome) = true := by rfl) (hl : keys.length = values.length := by rfl) (h0 : keys ≠ [] := by exact fun h => nomatch h) (h15 : keys.length ≤ 15 := by decide) :
    PE X (.Dict keys values pos) (tN Γ W (dDisp prs)) := PE.w (pe_disp h hall hl h0 h15) fun σ H Q ⟨G, env, F, er, q⟩ => fun a ha => by
  obtain ⟨g0, fa⟩ := gr_new (o := .dK []) er.fh ha
  have er0 := er.gr g0
  refine pairs_r er0 ?_
  unfold dDisp at q
  cases z : dPairs prs env with
  | err => rw [z] at q; exact q.elim
  | exc c fs => rw [z] at q; exact q.mono g0
  | ok m =>
    rw [z] at q
    simp only [Res.bind_ok] at q
    intro F1 H1 g1 kvs kr
    have hH1 : H1 a = some (.dK []) := g1.hh _ _ upd_same
    have f1 : F1 a = none := by
      cases z : F1 a with
      | none => rfl
      | some o =>
        rcases g1.new a o z with y | y
        · rw [fa] at y; cases y
        · rw [upd_same] at y; cases y
    split at q
    · rename_i hm
      refine ⟨hH1, kvs, rfl, by rw [kr.length]; exact hm, ?_⟩
      have gg := g0.trans g1
      refine q F1 _ ⟨gg.ff, fun p o y => ?_, fun p o y => ?_, gg.new⟩ a ha f1 (top_dic upd_same ?_ (kr_merge kr .nil))
      · rw [upd_ne (ne_of_none y f1)]; exact gg.fh p o y
      · rw [upd_ne (ne_of_none y ha)]; exact gg.hh p o y
      · have h1 := length_mergeK kvs []
        have h2 := kr.length
        rw [List.length_nil] at h1
        rw [sizeLine_eq]; omega
    · exact q.elim
theorem flat_disp {prs : List ((Env → Res D) × (Env → Res D))} : ∀ env d, dDisp prs env = .ok d → flat d = true := fun env d h => by
  unfold dDisp at h
  cases z : dPairs prs env with
  | ok m => rw [z] at h; simp only [Res.bind_ok] at h; split at h <;> cases h; rfl
  | exc c fs => rw [z] at h; cases h
  | err => rw [z] at h; cases h
end
end Dn

/-! Den12.lean -/
namespace Dn
open PySem PySem.Spec PyProof.Rows L2
theorem script_rep {Γ : Gm} {H : Hp} {a : Addr} {ns : List Int} (hl : ns.length ≤ 63) (q : SqL Γ.K H a (ns.map V.int)) : Rep Γ H (.scr ns) (.ref a) := by
  rw [Rep]
  refine ⟨a, rfl, Nat.le_trans hl (by decide), q, ?_⟩
  rcases q with (q | ⟨o, q⟩) | ⟨o, its, n, q, c, _⟩
  · exact .inl ⟨_, q⟩
  · exact .inr (.inl ⟨o, _, q⟩)
  · exact .inr (.inr ⟨o, q, c⟩)
theorem end_sp {Γ : Gm} {f : List D → Res D} (ht : ∀ ns : List Int, ns.length ≤ 63 → f [.scr ns] = .ok (.bl true)) {vs : List V} {H : Hp} {Q : VK} {E : XK} {a : Addr} {ns : List Int} (e : vs = [.ref a]) (q : SqL Γ.K H a (ns.map V.int)) (hl : ns.length ≤ 63) (k : ∀ H', Q (.bl true) H') : spD Γ 1 f vs H Q E := by
  subst e
  refine ⟨[.scr ns], H, rfl, Same.refl _, .cons (script_rep hl q) .nil, ?_⟩
  rw [ht ns hl]
  intro v F' H' g r
  rw [Rep] at r
  subst r
  exact k H'
end Dn

/-! Den13.lean -/
namespace Dn
open PySem PySem.Spec PyProof.Rows L2

/-! ### fields -/
/-- the place of an attribute among a class's -/
def fIx : List Str → Str → Option Nat
  | [], _ => none
  | g :: r, f => if f == g then some 0 else (fIx r f).map (· + 1)
theorem fIx_lookup : ∀ {ns : List Str} {fs : List (Str × V)} {f : Str} {j k : Nat}, fs.map (·.1) = ns.take k → fIx ns f = some j → j < k → ∃ v, fs.lookup f = some v ∧ (fs.map (·.2))[j]? = some v
  | [], fs, f, j, k, _, h, _ => by cases h
  | g :: r, fs, f, j, 0, _, _, hj => absurd hj (Nat.not_lt_zero _)
  | g :: r, [], f, j, k + 1, e, _, _ => by cases e
  | g :: r, (g', x) :: fs, f, j, k + 1, e, h, hj => by
    simp only [List.map_cons, List.take_succ_cons, List.cons.injEq] at e
    obtain ⟨rfl, e⟩ := e
    unfold fIx at h
    by_cases hb : (f == g') = true
    · rw [if_pos hb] at h; cases h
      exact ⟨x, by simp only [List.lookup, hb], rfl⟩
    · rw [if_neg hb] at h
      cases z : fIx r f with
      | none => rw [z] at h; cases h
      | some i =>
        rw [z] at h; cases h
        obtain ⟨v, a, b⟩ := fIx_lookup (j := i) (k := k) e z (by simp only at hj; omega)
        refine ⟨v, ?_, by simpa using b⟩
        have hb' : (f == g') = false := by simpa using hb
        simp only [List.lookup, hb']; exact a
theorem fIx_none : ∀ {ns : List Str} {fs : List (Str × V)} {f : Str} {k : Nat}, fs.map (·.1) = ns.take k → fIx ns f = none → fs.lookup f = none
  | [], fs, f, k, e, _ => by
    cases fs with
    | nil => rfl
    | cons p r => simp at e
  | g :: r, [], f, k, e, _ => rfl
  | g :: r, (g', x) :: fs, f, 0, e, h => by simp at e
  | g :: r, (g', x) :: fs, f, k + 1, e, h => by
    simp only [List.map_cons, List.take_succ_cons, List.cons.injEq] at e
    obtain ⟨rfl, e⟩ := e
    unfold fIx at h
    by_cases hb : (f == g') = true
    · rw [if_pos hb] at h; cases h
    · rw [if_neg hb] at h
      have hb' : (f == g') = false := by simpa using hb
      simp only [List.lookup, hb']
      exact fIx_none (k := k) e (by cases z : fIx r f with | none => rfl | some i => rw [z] at h; cases h)
theorem fIx_lt : ∀ {ns : List Str} {f : Str} {j : Nat}, fIx ns f = some j → ns[j]? = some f
  | [], f, j, h => by cases h
  | g :: r, f, j, h => by
    unfold fIx at h
    by_cases hb : (f == g) = true
    · rw [if_pos hb] at h; cases h; simp [(beq_iff_eq.mp hb)]
    · rw [if_neg hb] at h
      cases z : fIx r f with
      | none => rw [z] at h; cases h
      | some i => rw [z] at h; cases h; simpa using fIx_lt z
theorem putF_old {y : V} : ∀ {ns : List Str} {fs : List (Str × V)} {f : Str} {j k : Nat}, fs.map (·.1) = ns.take k → fIx ns f = some j → j < k → (putF f y fs).map (·.1) = ns.take k ∧ (putF f y fs).map (·.2) = (fs.map (·.2)).set j y
  | [], fs, f, j, k, _, h, _ => by cases h
  | g :: r, fs, f, j, 0, _, _, hj => absurd hj (Nat.not_lt_zero _)
  | g :: r, [], f, j, k + 1, e, _, _ => by cases e
  | g :: r, (g', x) :: fs, f, j, k + 1, e, h, hj => by
    simp only [List.map_cons, List.take_succ_cons, List.cons.injEq] at e
    obtain ⟨rfl, e⟩ := e
    unfold fIx at h
    rw [show putF f y ((g', x) :: fs) = (if g' = f then (g', y) :: fs else (g', x) :: putF f y fs) from rfl]
    by_cases hb : (f == g') = true
    · rw [if_pos hb] at h; cases h
      rw [if_pos (beq_iff_eq.mp hb).symm]
      simp [e]
    · rw [if_neg hb] at h
      have hn : ¬ g' = f := fun z => hb (beq_iff_eq.mpr z.symm)
      cases z : fIx r f with
      | none => rw [z] at h; cases h
      | some i =>
        rw [z] at h; cases h
        obtain ⟨a, b⟩ := putF_old (y := y) (j := i) (k := k) e z (by simp only at hj; omega)
        rw [if_neg hn]
        simp [a, b]
theorem putF_new {y : V} : ∀ {ns : List Str} {fs : List (Str × V)} {f : Str} {k : Nat}, fs.map (·.1) = ns.take k → fIx ns f = some k → (putF f y fs).map (·.1) = ns.take (k + 1) ∧ (putF f y fs).map (·.2) = fs.map (·.2) ++ [y]
  | [], fs, f, k, _, h => by cases h
  | g :: r, fs, f, 0, e, h => by
    have : fs = [] := by simpa using e
    subst this
    unfold fIx at h
    by_cases hb : (f == g) = true
    · simp [putF, beq_iff_eq.mp hb]
    · rw [if_neg hb] at h
      cases z : fIx r f with
      | none => rw [z] at h; cases h
      | some i => rw [z] at h; cases h
  | g :: r, [], f, k + 1, e, h => by cases e
  | g :: r, (g', x) :: fs, f, k + 1, e, h => by
    simp only [List.map_cons, List.take_succ_cons, List.cons.injEq] at e
    obtain ⟨rfl, e⟩ := e
    unfold fIx at h
    rw [show putF f y ((g', x) :: fs) = (if g' = f then (g', y) :: fs else (g', x) :: putF f y fs) from rfl]
    by_cases hb : (f == g') = true
    · rw [if_pos hb] at h; cases h
    · rw [if_neg hb] at h
      have hn : ¬ g' = f := fun z => hb (beq_iff_eq.mpr z.symm)
      cases z : fIx r f with
      | none => rw [z] at h; cases h
      | some i =>
        rw [z] at h
        have hi : i = k := by simpa using h
        subst hi
        obtain ⟨a, b⟩ := putF_new (y := y) e z
        rw [if_neg hn]
        simp [a, b]
theorem lookup_mem {α : Type} {c : Nat} {x : α} : ∀ {tab : List (Nat × α)}, tab.lookup c = some x → (c, x) ∈ tab
  | [], h => by cases h
  | (k, y) :: r, h => by
    by_cases hb : (c == k) = true
    · simp only [List.lookup, hb] at h; cases h
      rw [beq_iff_eq.mp hb]; exact List.mem_cons_self
    · have hb' : (c == k) = false := by simpa using hb
      simp only [List.lookup, hb'] at h
      exact List.mem_cons_of_mem _ (lookup_mem h)
theorem fa_nil {α : Type} {p : α → Prop} : ∀ x ∈ ([] : List α), p x := fun _ h => by cases h
theorem fa_cons {α : Type} {p : α → Prop} {a : α} {l : List α} (h : p a) (t : ∀ x ∈ l, p x) : ∀ x ∈ a :: l, p x := fun x hx => by
  rcases List.mem_cons.mp hx with e | e
  · exact e ▸ h
  · exact t x e

section
variable {X : Cx} {Γ : Gm} {W : WX} {pos pos' p2 : Pos} {e : Expr} {f : Str} {da : Env → Res D} {i : Nat}
theorem RepT.obj {F H : Hp} {c : Nat} {ds : List D} {v : V} (s : Same F H) : RepT Γ F H (.obj c ds) v → ∃ a dx fs, v = .ref a ∧ H a = some (.ins (Γ.cls c) dx fs) ∧ fs.map (·.1) = (Γ.flds c).take ds.length ∧ Reps Γ F ds (fs.map (·.2))
  | .inl h => by
    rw [Rep] at h; obtain ⟨a, dx, fs, e, q, l, r⟩ := h
    refine ⟨a, dx, fs, e, s _ _ q, ?_, r⟩
    have h1 : ds.length = (Γ.flds c).length := by rw [← r.length, ← l]; simp
    rw [h1, List.take_length, l]
  | .inr ⟨a, e, dx, fs, q, l, r⟩ => ⟨a, dx, fs, e, q, l, r⟩
/-- a class whose instances have the attribute at j -/
structure FO (Γ : Gm) (c : Nat) (f : Str) (j : Nat) : Prop where
  cl : Cls Γ.K (Γ.cls c)
  na : NoAttr Γ.K (Γ.cls c) f
  ix : fIx (Γ.flds c) f = some j
  sm : (Γ.flds c).length < 1000
def dFld (tab : List (Nat × Nat)) : D → Option D
  | .obj c ds => (tab.lookup c).bind fun j => ds[j]?
  | _ => none
theorem e_fld {tab : List (Nat × Nat)} (hk : Γ.K = X.K) (hT : ∀ p ∈ tab, FO Γ p.1 f p.2) (he : PE X e (tW Γ W da)) (hb : attributeBase e f X.env (eval e X.env) = eval e X.env := by rfl) : PE X (.Attribute e f pos) (tE Γ W (dUn (dFld tab) da)) :=
  PE.w (pe_fld he hb) fun σ H Q ⟨G, env, F, er, h⟩ => by
  refine ⟨G, env, F, er, h.bind.imp fun d F1 H1 _ g1 h1 v r => ?_⟩
  cases d with
  | obj c ds => ?_
  | _ => exact h1.elim
  obtain ⟨a, dx, fs, rfl, q, l, rr⟩ := r.obj (er.gr g1).fh
  unfold dFld at h1
  simp only at h1
  cases z : tab.lookup c with
  | none => rw [z] at h1; exact h1.elim
  | some j =>
    rw [z] at h1
    simp only [Option.bind_some] at h1
    have T := hT _ (lookup_mem z)
    cases z2 : ds[j]? with
    | none => rw [z2] at h1; exact h1.elim
    | some d =>
      rw [z2] at h1
      obtain ⟨v, lv, jv⟩ := fIx_lookup l T.ix (List.getElem?_eq_some_iff.mp z2).1
      obtain ⟨u, ju, ru⟩ := rr.get z2
      rw [jv] at ju; cases ju
      exact ⟨a, Γ.cls c, dx, fs, v, rfl, q, hk ▸ T.cl, hk ▸ T.na, lv, h1.ok (er.gr g1) v ru⟩
/-- self.f = e at the own object of slot i -/
def dFst (tab : List (Nat × Nat)) (i : Nat) (den : Env → Res D) : Env → Out := fun env => match den env with
  | .ok d => match env[i]? with
    | some (.own (.obj c ds)) => match tab.lookup c with
      | some j => if j < ds.length then .nx (env.set i (.own (.obj c (ds.set j d)))) else if j = ds.length then .nx (env.set i (.own (.obj c (ds ++ [d])))) else .err
      | none => .err
    | _ => .err
  | .exc c fs => .exc env c fs
  | .err => .err
theorem s_fst {tab : List (Nat × Nat)} {x : Str} {value : Expr} {den : Env → Res D} (hk : Γ.K = X.K) (hT : ∀ p ∈ tab, FO Γ p.1 f p.2) (hp : PE X (.Name x p2) (tVar i)) (he : PE X value (tE Γ W den)) (hs : swapsWith value (some (.Attribute (.Name x p2) f pos')) pos.line X.env = pure false := by rfl) :
    PS X (.Assign [.Attribute (.Name x p2) f pos'] value pos) (tS Γ W (dFst tab i den)) := PS.w (ps_fld hp he hs) fun Dd σ H ⟨G, env, F, er, q⟩ => by
  refine ⟨G, env, F, er, ?_⟩
  unfold dFst at q
  cases z0 : den env with
  | err => rw [z0] at q; exact q.elim
  | exc c fs => rw [z0] at q; exact fun F' H' d g x => q σ F' H' d g.ff (er.gr g) x
  | ok d =>
    rw [z0] at q
    simp only at q
    intro F1 H1 g1 y ry
    have er1 := er.gr g1
    split at q
    · rename_i c ds hown
      obtain ⟨a, hσ, fa, dx, fs, ha, l, rr⟩ := own_at er1 hown
      cases z : tab.lookup c with
      | none => rw [z] at q; exact q.elim
      | some j =>
        rw [z] at q
        simp only at q
        have T := hT _ (lookup_mem z)
        have T1 := T.cl; have T2 := T.na; have T3 := T.ix; have T4 := T.sm
        simp only at T1 T2 T3 T4
        have hfl : fs.length = ds.length := by simpa using rr.length
        have hjl : j < (Γ.flds c).length := (List.getElem?_eq_some_iff.mp (fIx_lt T3)).1
        have hl : fs.length < 1000 := by
          have : (fs.map (·.1)).length = ((Γ.flds c).take ds.length).length := by rw [l]
          simp only [List.length_map, List.length_take] at this
          omega
        refine ⟨.ref a, hσ, a, Γ.cls c, dx, fs, rfl, ha, hk ▸ T1, hk ▸ T2, hl, ?_⟩
        split at q
        · rename_i hj
          obtain ⟨p1, p2⟩ := putF_old (y := y) l T3 hj
          exact q σ F1 _ g1.ff (er1.write hown hσ ⟨dx, _, upd_same, by rw [p1, List.length_set], by rw [p2]; exact Reps.set ry j rr⟩)
        · split at q
          · rename_i hj hj2
            subst hj2
            obtain ⟨p1, p2⟩ := putF_new (y := y) l T3
            exact q σ F1 _ g1.ff (er1.write hown hσ ⟨dx, _, upd_same, by rw [p1, List.length_append]; rfl, by rw [p2]; exact rr.append (.cons ry .nil)⟩)
          · exact q.elim
    · exact q.elim
end

/-! ### __init__ -/
/-- growth beside x -/
structure GrX (x : Addr) (F H F' H' : Hp) : Prop where
  ff : Same F F'
  fh : Same F' H'
  hx : ∀ p o, p ≠ x → H p = some o → H' p = some o
  new : ∀ p o, F' p = some o → F p = some o ∨ H p = none ∨ p = x
section
variable (Γ : Gm)
def rPostI (x : Addr) (c : Nat) (F H : Hp) (r : Res (List D)) (Q : VK) (E : XK) : Prop := match r with
  | .ok ds => ∀ F' H', GrX x F H F' H' → F' x = none → Top Γ F' H' x (.obj c ds) → Q .non H'
  | .exc c' fs => ∀ F' H' d, GrX x F H F' H' → XD Γ F' c' fs d → E (.ref (Γ.cls c')) d H'
  | .err => False
/-- what an __init__ promises: the fields ahead, the arguments; the fields behind -/
def spI (n : Nat) (g : Nat → List D → List D → Res (List D)) : Sp := fun vs H Q E => ∃ x us c ds0 ds F, vs = .ref x :: us ∧ ds.length = n ∧ Same F H ∧ F x = none ∧ Top Γ F H x (.obj c ds0) ∧ Reps Γ F ds us ∧ rPostI Γ x c F H (g c ds0 ds) Q E
end
def envI (n N c : Nat) (ds0 ds : List D) : Env := .own (.obj c ds0) :: (ds.map Slot.val ++ List.replicate (N - (n + 1)) .un)
def outI (c : Nat) : Out → Res (List D)
  | .nx e => match (e[0]? : Option Slot) with
    | some (Slot.own (D.obj c' ds)) => if c' = c then .ok ds else .err
    | _ => .err
  | .exc _ c fs => .exc c fs
  | _ => .err
def dInit (n N : Nat) (body : Env → Out) : Nat → List D → List D → Res (List D) := fun c ds0 ds => outI c (body (envI n N c ds0 ds))
section
variable {P : Program} {w : World} {K : PySem.W.Frag} {mg : Str → Option Value} {base : Heap} {Γ : Gm}
theorem er_startI {n N c : Nat} {ds0 ds : List D} {us : List V} {F H : Hp} {x : Addr} (hl : ds.length = n) (s : Same F H) (fx : F x = none) (t : Top Γ F H x (.obj c ds0)) (r : Reps Γ F ds us) :
    ER Γ ⟨fun p => if p = x then none else H p, F, some x⟩ (envI n N c ds0 ds) ((V.ref x :: us).map some ++ List.replicate (N - (V.ref x :: us).length) none) F H := by
  have hu : us.length = n := r.length.trans hl
  have own : ∀ (i : Nat) d, (envI n N c ds0 ds)[i]? = some (.own d) → i = 0 := fun i d q => by
    cases i with
    | zero => rfl
    | succ i =>
      unfold envI at q
      rw [List.getElem?_cons_succ] at q
      rcases List.mem_append.mp (List.mem_of_getElem? q) with z | z
      · obtain ⟨a, _, e⟩ := List.mem_map.mp z; cases e
      · cases List.eq_of_mem_replicate z
  refine ⟨?_, s, fun p o q => ?_, Same.refl _, fun p o q => .inl q, fun i sl q => ?_, fun i j a di dj q1 q2 _ _ => (own i di q1).trans (own j dj q2).symm, fun y d h _ => ?_⟩
  · simp [envI, hu, hl]
  · show H p = some o
    by_cases hp : p = x
    · simp only [hp, if_pos] at q; cases q
    · simp only [if_neg hp] at q; exact q
  · cases i with
    | zero =>
      simp only [envI, List.getElem?_cons_zero] at q
      cases q
      refine ⟨some (.ref x), by simp, x, rfl, fx, ?_, t⟩
      simp
    | succ i =>
      unfold envI at q
      rw [List.getElem?_cons_succ] at q
      have e1 : ((V.ref x :: us).map some ++ List.replicate (N - (V.ref x :: us).length) none)[i + 1]? = (us.map some ++ List.replicate (N - (n + 1)) (none : Option V))[i]? := by
        simp [hu]
      rw [e1]
      by_cases hi : i < n
      · rw [List.getElem?_append_left (by simp [hl, hi]), List.getElem?_map] at q
        cases z : ds[i]? with
        | none => rw [z] at q; cases q
        | some d =>
          rw [z] at q; cases q
          obtain ⟨v, hv', rv⟩ := r.get z
          exact ⟨some v, by rw [List.getElem?_append_left (by simp [hu, hi]), List.getElem?_map, hv']; rfl, v, rfl, rv⟩
      · rw [List.getElem?_append_right (by simp [hl]; omega), List.getElem?_replicate] at q
        split at q
        · rename_i hlt
          cases q
          refine ⟨none, ?_, trivial⟩
          rw [List.getElem?_append_right (by simp [hu]; omega), List.getElem?_replicate, if_pos]
          simp only [List.length_map, hu] ; simp only [List.length_map, hl] at hlt; exact hlt
        · cases q
  · cases h; simp
theorem ER.outX {x : Addr} {env : Env} {σ : L2.St} {F H F' H' : Hp} {m : Option Addr} (e : ER Γ ⟨fun p => if p = x then none else H p, F, m⟩ env σ F' H') (s : Same F F') : GrX x F H F' H' := ⟨s, e.fh, fun p o hp q => e.bh p o (by simp only [if_neg hp]; exact q), fun p o q => by
  rcases e.fr p o q with z | z
  · exact .inl z
  · by_cases hp : p = x
    · exact .inr (.inr hp)
    · simp only [if_neg hp] at z; exact .inr (.inl z)⟩
theorem init_ok {x qual : Str} {st : Stmt} {f : Addr} {fd : FuncData} {N ps : List Str} {k n : Nat} {den : Env → Out} (F : Fun K x qual st f fd) (S : FnScope N ps (defScope st)) (hn : ps.length = n + 1)
    (body : ∀ (cdv : Value) (A : Around) (outer : List PySem.Env) (s : Shared) (H : Hp) (E : XK), Room k (A.deeper (envOfC qual (defScope st) s.heap.objs.size f cdv)) →
      PSs (cxOf (L2.CX P w) P w K mg base N qual (defScope st) f cdv A outer s H E) (defBody st) (tS Γ (fun c d _ H => E c d H) den)) :
    FnOk P w K mg base (L2.CX P w) (k + 1) f fd ps (spI Γ n (dInit n N.length den)) := by
  refine F.okX S (fun vs H Q E ⟨x, us, c, ds0, ds, F, e, hl, s, fx, t, r, _⟩ => by rw [e, List.length_cons, r.length, hl, hn]) (fun cdv A outer s H vs Q E hr h => ⟨_, body cdv A outer s H E hr, ?_⟩)
  obtain ⟨x, us, c, ds0, ds, F0, rfl, hl, sm, fx, t, r, q⟩ := h
  refine ⟨⟨fun p => if p = x then none else H p, F0, some x⟩, envI n N.length c ds0 ds, F0, er_startI (Γ := Γ) (N := N.length) hl sm fx t r, ?_⟩
  unfold dInit at q
  cases z : den (envI n N.length c ds0 ds) with
  | nx e =>
    rw [z] at q
    unfold outI at q
    intro σ' F' H' s' er'
    simp only at q
    split at q
    · rename_i c' ds' h0
      split at q
      · rename_i hc
        subst hc
        have hm := er'.me x _ rfl h0
        obtain ⟨y, hy, a, e1, fa, _, ta⟩ := er'.sl 0 _ h0
        rw [hm] at hy; cases hy; cases e1
        exact q F' H' (er'.outX s') fa ta
      · exact q.elim
    · exact q.elim
  | ret d => rw [z] at q; exact q.elim
  | bk e => rw [z] at q; exact q.elim
  | ct e => rw [z] at q; exact q.elim
  | exc e c fs => rw [z] at q; exact fun σ' F' H' d s' er' x' => q F' H' d (er'.outX s') x'
  | err => rw [z] at q; exact q.elim
/-- the same of a def with defaults -/
theorem init_okD {x qual : Str} {params : Arguments} {bd : List Stmt} {sc : Scope} {dvs : List V} {kws : List (Str × V)} {f : Addr} {fd : FuncData} {N ps : List Str} {k n : Nat} {den : Env → Out} (F : FunD K x qual params bd sc dvs kws f fd) (S : FnScope N ps sc) (hn : ps.length = n + 1)
    (body : ∀ (cdv : Value) (A : Around) (outer : List PySem.Env) (s : Shared) (H : Hp) (E : XK), Room k (A.deeper (envOfC qual sc s.heap.objs.size f cdv)) →
      PSs (cxOf (L2.CX P w) P w K mg base N qual sc f cdv A outer s H E) bd (tS Γ (fun c d _ H => E c d H) den)) :
    FnOk P w K mg base (L2.CX P w) (k + 1) f fd ps (spI Γ n (dInit n N.length den)) := by
  refine F.ok S (fun vs H Q E ⟨x, us, c, ds0, ds, F, e, hl, s, fx, t, r, _⟩ => by rw [e, List.length_cons, r.length, hl, hn]) (fun cdv A outer s H vs Q E hr h => ⟨_, body cdv A outer s H E hr, ?_⟩)
  obtain ⟨x, us, c, ds0, ds, F0, rfl, hl, sm, fx, t, r, q⟩ := h
  refine ⟨⟨fun p => if p = x then none else H p, F0, some x⟩, envI n N.length c ds0 ds, F0, er_startI (Γ := Γ) (N := N.length) hl sm fx t r, ?_⟩
  unfold dInit at q
  cases z : den (envI n N.length c ds0 ds) with
  | nx e =>
    rw [z] at q
    unfold outI at q
    intro σ' F' H' s' er'
    simp only at q
    split at q
    · rename_i c' ds' h0
      split at q
      · rename_i hc
        subst hc
        have hm := er'.me x _ rfl h0
        obtain ⟨y, hy, a, e1, fa, _, ta⟩ := er'.sl 0 _ h0
        rw [hm] at hy; cases hy; cases e1
        exact q F' H' (er'.outX s') fa ta
      · exact q.elim
    · exact q.elim
  | ret d => rw [z] at q; exact q.elim
  | bk e => rw [z] at q; exact q.elim
  | ct e => rw [z] at q; exact q.elim
  | exc e c fs => rw [z] at q; exact fun σ' F' H' d s' er' x' => q F' H' d (er'.outX s') x'
  | err => rw [z] at q; exact q.elim
theorem fn_okD {x qual : Str} {params : Arguments} {bd : List Stmt} {sc : Scope} {dvs : List V} {kws : List (Str × V)} {f : Addr} {fd : FuncData} {N ps : List Str} {k : Nat} {den : Env → Out} (F : FunD K x qual params bd sc dvs kws f fd) (S : FnScope N ps sc)
    (body : ∀ (cdv : Value) (A : Around) (outer : List PySem.Env) (s : Shared) (H : Hp) (E : XK), Room k (A.deeper (envOfC qual sc s.heap.objs.size f cdv)) →
      PSs (cxOf (L2.CX P w) P w K mg base N qual sc f cdv A outer s H E) bd (tS Γ (fun c d _ H => E c d H) den)) :
    FnOk P w K mg base (L2.CX P w) (k + 1) f fd ps (spD Γ ps.length (dFn ps.length N.length den)) := by
  refine F.ok S (fun vs H Q E ⟨ds, F0, hl, s, r, _⟩ => by rw [r.length, hl]) (fun cdv A outer s H vs Q E hr h => ⟨_, body cdv A outer s H E hr, ?_⟩)
  obtain ⟨ds, F0, hl, sm, r, q⟩ := h
  refine ⟨⟨H, F0, none⟩, env0 ps.length N.length ds, F0, ?_, ?_⟩
  · have := er_start (Γ := Γ) (N := N.length) hl sm r
    exact this
  · unfold dFn at q
    cases z : den (env0 ps.length N.length ds) with
    | nx e => rw [z] at q; exact fun σ' F' H' s' er' => q .non F' H' (er'.out (n := 0) (N := 0) s') (by rw [Rep])
    | ret d => rw [z] at q; exact fun v e σ' F' H' s' er' r' => q v F' H' (er'.out (n := 0) (N := 0) s') r'
    | bk e => rw [z] at q; exact q.elim
    | ct e => rw [z] at q; exact q.elim
    | exc e c fs => rw [z] at q; exact fun σ' F' H' d s' er' x' => q F' H' d (er'.out (n := 0) (N := 0) s') x'
    | err => rw [z] at q; exact q.elim
end
end Dn

/-! Den14.lean -/
namespace Dn
open PySem PySem.Spec PyProof.Rows L2

theorem FnD.mono {P : Program} {w : World} {K : PySem.W.Frag} {mg : Str → Option Value} {base : Heap} {Γ : Gm} {j k : Nat} {f : Addr} {n : Nat} {dfl : List D} {g : List D → Res D} (F : FnD P w K mg base Γ j f n dfl g) (h : j ≤ k) : FnD P w K mg base Γ k f n dfl g :=
  let ⟨fd, ps, ds, dvs, F1, b, hv, hd⟩ := F.ex
  ⟨⟨fd, ps, ds, dvs, F1.mono h, b, hv, hd⟩, F.kp⟩
/-- .. where defaults fill up -/
theorem FnD.mkD {P : Program} {w : World} {K : PySem.W.Frag} {mg : Str → Option Value} {base : Heap} {Γ : Gm} {k n : Nat} {f : Addr} {fd : FuncData} {ps : List Str} {g : List D → Res D} {dvs : List V} {dfl : List D} (F : FnOk P w K mg base (L2.CX P w) k f fd ps (spD Γ n g))
    (b : ∃ ds, Vals dvs ds ∧ Binds K fd ps ds) (hd : ∀ F, Reps Γ F dfl dvs) (kp : PySem.W.keepIn K (.ref f) = true) : FnD P w K mg base Γ k f n dfl g :=
  let ⟨ds, hv, hb⟩ := b
  ⟨⟨fd, ps, ds, dvs, F, hb, hv, hd⟩, kp⟩
/-- an __init__ as callers take it -/
structure InD (P : Program) (w : World) (K : PySem.W.Frag) (mg : Str → Option Value) (base : Heap) (Γ : Gm) (k : Nat) (f : Addr) (n : Nat) (dfl : List D) (g : Nat → List D → List D → Res (List D)) : Prop where
  ex : ∃ fd ps ds dvs, FnOk P w K mg base (L2.CX P w) k f fd ps (spI Γ n g) ∧ Binds K fd ps ds ∧ Vals dvs ds ∧ ∀ F, Reps Γ F dfl dvs
  kp : PySem.W.keepIn K (.ref f) = true
theorem InD.mk0 {P : Program} {w : World} {K : PySem.W.Frag} {mg : Str → Option Value} {base : Heap} {Γ : Gm} {k n : Nat} {f : Addr} {fd : FuncData} {ps : List Str} {g : Nat → List D → List D → Res (List D)} (F : FnOk P w K mg base (L2.CX P w) k f fd ps (spI Γ n g)) (b : Binds K fd ps []) (kp : PySem.W.keepIn K (.ref f) = true) : InD P w K mg base Γ k f n [] g :=
  ⟨⟨fd, ps, [], [], F, b, .nil, fun _ => .nil⟩, kp⟩
theorem InD.mkD {P : Program} {w : World} {K : PySem.W.Frag} {mg : Str → Option Value} {base : Heap} {Γ : Gm} {k n : Nat} {f : Addr} {fd : FuncData} {ps : List Str} {g : Nat → List D → List D → Res (List D)} {dvs : List V} {dfl : List D} (F : FnOk P w K mg base (L2.CX P w) k f fd ps (spI Γ n g))
    (b : ∃ ds, Vals dvs ds ∧ Binds K fd ps ds) (hd : ∀ F, Reps Γ F dfl dvs) (kp : PySem.W.keepIn K (.ref f) = true) : InD P w K mg base Γ k f n dfl g :=
  let ⟨ds, hv, hb⟩ := b
  ⟨⟨fd, ps, ds, dvs, F, hb, hv, hd⟩, kp⟩
/-- a class with its __init__ -/
structure MkD (P : Program) (w : World) (K : PySem.W.Frag) (mg : Str → Option Value) (base : Heap) (Γ : Gm) (k : Nat) (C : Addr) (n : Nat) (dfl : List D) (g : Nat → List D → List D → Res (List D)) : Prop where
  ex : ∃ f, Mk K C f ∧ InD P w K mg base Γ k f n dfl g
section
variable {X : Cx} {Γ : Gm} {W : WX} {k : Nat} {c nf : Nat} {n : Nat} {dfl : List D} {g : Nat → List D → List D → Res (List D)} {x : Str} {p pos : Pos} {e : Expr} {es : List Expr} {dl : Env → Res (List D)}
def mkR (c nf : Nat) (r : Res (List D)) : Res D := r.bind fun fs => if fs.length = nf then .ok (.obj c fs) else .err
theorem mk_gr {F H F' H' : Hp} {x dx C : Addr} (sm : Same F H) (hx : H x = none) (hdx : H dx = none) (gx : GrX x F (upd (upd H dx (.own x)) x (.ins C dx [])) F' H') : Gr F H F' H' := by
  have up : ∀ p o, H p = some o → upd (upd H dx (.own x)) x (.ins C dx []) p = some o := fun p o q => by
    rw [upd_ne (ne_of_none q hx), upd_ne (ne_of_none q hdx)]; exact q
  refine ⟨gx.ff, gx.fh, fun p o q => gx.hx p o (ne_of_none q hx) (up p o q), fun p o q => ?_⟩
  rcases gx.new p o q with z | z | z
  · exact .inl z
  · refine .inr ?_
    cases e : H p with
    | none => rfl
    | some u => rw [up p u e] at z; cases z
  · exact .inr (z ▸ hx)
/-- what its promise gives a maker -/
theorem mk_sp {F H : Hp} {Q : VK} {E : XK} {vs dvs : List V} {ds : List D} {x dx : Addr} (hn : ds.length + dfl.length = n) (sm : Same F H) (rd : Reps Γ F ds vs) (hd : ∀ F, Reps Γ F dfl dvs) (hx : H x = none) (hdx : H dx = none) (ne : dx ≠ x)
    (hnf : (Γ.flds c).length = nf) (h : post Γ W σ F H (mkR c nf (g c [] (ds ++ dfl))) (kE Γ Q)) (hE : E = WE W σ) :
    spI Γ n g (.ref x :: (vs ++ dvs)) (upd (upd H dx (.own x)) x (.ins (Γ.cls c) dx [])) (fun v H2 => v = .non ∧ Q (.ref x) H2) E := by
  subst hE
  have fx : F x = none := by
    cases q : F x with
    | none => rfl
    | some o => have := sm x o q; rw [hx] at this; cases this
  have sm2 : Same F (upd (upd H dx (.own x)) x (.ins (Γ.cls c) dx [])) := fun p o q => by
    have := sm p o q
    rw [upd_ne (ne_of_none this hx), upd_ne (ne_of_none this hdx)]; exact this
  refine ⟨x, vs ++ dvs, c, [], ds ++ dfl, F, rfl, by rw [List.length_append]; exact hn, sm2, fx, ⟨dx, [], upd_same, by simp, .nil⟩, rd.append (hd F), ?_⟩
  unfold mkR at h
  cases z : g c [] (ds ++ dfl) with
  | err => rw [z] at h; exact h.elim
  | exc c' fs => rw [z] at h; exact fun F' H' d gx xd => h F' H' d (mk_gr sm hx hdx gx) xd
  | ok fs =>
    rw [z] at h
    simp only [Res.bind_ok] at h
    intro F' H' gx fx' t
    split at h
    · rename_i hl
      obtain ⟨F2, g2, r2⟩ := fresh_gr (mk_gr sm hx hdx gx) fx' hx t fun c' ds' z => by cases z; rw [hl, hnf]
      exact ⟨rfl, h F2 H' g2 _ r2⟩
    · exact h.elim
theorem run_mk (hF : MkD X.prog X.w X.K X.mg X.base Γ k (Γ.cls c) n dfl g) (hnf : (Γ.flds c).length = nf) (hr : Room (k + 1) X.A) (tk : Takes X W) {pins : List (Addr × Obj)} {σ : L2.St} {F H : Hp} {s : Shared} {Q : VK} {us : List Value} {vs : List V} {ds : List D}
    (I : Inv X pins σ H s) (r : Vals vs us) (hn : ds.length + dfl.length = n) (sm : Same F H) (rd : Reps Γ F ds vs) (h : post Γ W σ F H (mkR c nf (g c [] (ds ++ dfl))) (kE Γ Q)) : wpAny (model X.prog X.w) X.A (call (.ref (Γ.cls c)) us) (EP X pins σ Q) X.xe s := by
  obtain ⟨f, M, ⟨fd, ps, dus, dvs, F1, b, hv, hd⟩, kp⟩ := hF.ex
  have hq := mk_sp (W := W) (σ := σ) (Q := Q) hn sm rd hd (I.hok.fresh (Nat.le_succ s.heap.objs.size)) (I.hok.fresh (Nat.le_refl s.heap.objs.size)) (Nat.ne_of_lt (Nat.lt_succ_self _)) hnf h rfl
  have I2 := Inv.made (C := Γ.cls c) I
  have r2 : Vals (V.ref (s.heap.objs.size + 1) :: (vs ++ dvs)) (Value.ref (s.heap.objs.size + 1) :: (us ++ dus)) := .cons rfl (r.append hv)
  have hl : (Value.ref (s.heap.objs.size + 1) :: us ++ dus).length = ps.length := by
    have e := r2.length
    rw [F1.len _ _ _ _ hq] at e
    exact e.symm
  refine wpAny_call (make_map (f := f) I.kIn M.makes M.init (beq_iff_eq.mp M.fn) (codeAny_mono (F1.run _ X.stack _ _ ⟨Value.ref (s.heap.objs.size + 1) :: us, []⟩ (Value.ref (s.heap.objs.size + 1) :: (us ++ dus)) _ _ _ (hr.make (Γ.cls c) us [])
    (I2.env0.make (Γ.cls c) us []) (b _ (Value.ref (s.heap.objs.size + 1) :: us) I2.kIn hl) r2 hq) fun r s' hq' => ?_))
  cases r with
  | error e => exact passAt tk σ pins _ _ e s' I2 hq'
  | ok fl =>
    cases fl with
    | ret u =>
      obtain ⟨v, H', I3, rv, ev, q3⟩ := I2.after hq'
      subst ev
      exact ⟨rv, ⟨V.ref (s.heap.objs.size + 1), H', I3, rfl, q3⟩⟩
    | next => exact False.elim hq'
    | brk => exact False.elim hq'
    | cont => exact False.elim hq'
def dMake (c nf n : Nat) (dfl : List D) (g : Nat → List D → List D → Res (List D)) (dl : Env → Res (List D)) : Env → Res D := fun env => (dl env).bind fun ds => if ds.length + dfl.length = n then mkR c nf (g c [] (ds ++ dfl)) else .err
theorem e_make (hF : MkD X.prog X.w X.K X.mg X.base Γ k (Γ.cls c) n dfl g) (hnf : (Γ.flds c).length = nf) (hr : Room (k + 1) X.A) (tk : Takes X W) (hg : Gl X x) (hm : X.mg x = some (.ref (Γ.cls c)))
    (ha : PA X (e :: es) (tA Γ W dl)) (hdb : (x == ("__debug__" : Str)) = false := by decide) (he : starEach (e :: es) X.env = (false, eval e X.env) :: starEach es X.env := by rfl) (hpl : (backTo pos (starEach es X.env)).any (·.1) = false := by rfl) :
    PE X (.Call (.Name x p) (e :: es) [] pos) (tE Γ W (dMake c nf n dfl g dl)) := by
  refine ⟨fun pins s σ H Q I ⟨G, env, F, er, h⟩ => ?_⟩
  refine wpAny_Call_Name_kw (ld_glob I hg hm ?_ hdb)
  have hh := ha.run pos pins s σ H (fun vs H1 => ∃ F1 ds, ER Γ G env σ F1 H1 ∧ Reps Γ F1 ds vs ∧ post Γ W σ F1 H1 (if ds.length + dfl.length = n then mkR c nf (g c [] (ds ++ dfl)) else .err) (kE Γ Q)) I ⟨G, env, F, er, h.bind.imp fun ds F1 H1 _ g1 h1 vs r => ⟨F1, ds, er.gr g1, r, h1⟩⟩
  obtain ⟨f, M, _⟩ := hF.ex
  refine PySem.W.callWith_K (h₀ := X.base) I.ok.mod.kin M.kp (thn hh fun us s1 ⟨vs, H1, I1, r, F1, ds, er1, rd, q⟩ => ⟨I1.kIn, ?_⟩) he hpl
  split at q
  · rename_i hn
    exact run_mk hF hnf hr tk I1 r hn er1.fh rd q
  · exact q.elim
theorem e_make0 (hF : MkD X.prog X.w X.K X.mg X.base Γ k (Γ.cls c) n dfl g) (hnf : (Γ.flds c).length = nf) (hr : Room (k + 1) X.A) (tk : Takes X W) (hg : Gl X x) (hm : X.mg x = some (.ref (Γ.cls c))) (hdb : (x == ("__debug__" : Str)) = false := by decide) :
    PE X (.Call (.Name x p) [] [] pos) (tE Γ W (dMake c nf n dfl g dNil)) := by
  refine ⟨fun pins s σ H Q I ⟨G, env, F, er, h⟩ => ?_⟩
  refine wpAny_Call_Name_kw (ld_glob I hg hm ?_ hdb)
  obtain ⟨f, M, _⟩ := hF.ex
  refine PySem.W.callWith_K0 I.kIn M.kp ?_
  unfold dMake dNil at h
  simp only [Res.bind_ok] at h
  split at h
  · rename_i hn
    exact run_mk (vs := []) (ds := []) (us := []) hF hnf hr tk I .nil hn er.fh .nil h
  · exact h.elim
end

/-! ### Base.__init__(self, ..) -/
section
variable {Γ : Gm} {G : Gd} {env : Env} {σ : L2.St} {F H F' H' : Hp} {i : Nat} {a : Addr} {d d' : D}
theorem ER.killX (e : ER Γ G env σ F H) (h : env[i]? = some (.own d)) (hs : σ[i]? = some (some (.ref a))) (gx : GrX a F H F' H') : ER Γ G (env.set i .un) σ F' H' := by
  obtain ⟨x0, hx0, a', e1, fa, ba, _⟩ := e.sl i _ h
  rw [hs] at hx0; cases hx0; cases e1
  have ek := e.kill i
  refine ⟨ek.len, gx.fh, fun p o q => gx.hx p o (ne_of_none q ba) (e.bh p o q), e.f0.trans gx.ff, fun p o q => ?_, fun j s q => ?_, ek.ds, ek.me⟩
  · rcases gx.new p o q with z | z | z
    · exact e.fr p o z
    · refine .inr ?_
      cases b : G.B p with
      | none => rfl
      | some u => have := e.bh p u b; rw [z] at this; cases this
    · exact .inr (z ▸ ba)
  · by_cases hj : i = j
    · subst hj
      have hl : i < env.length := (List.getElem?_eq_some_iff.mp h).1
      rw [List.getElem?_set_self hl] at q; cases q
      exact ⟨_, hs, trivial⟩
    · rw [List.getElem?_set_ne hj] at q
      obtain ⟨x, hx, r⟩ := e.sl j s q
      refine ⟨x, hx, ?_⟩
      cases s with
      | un => trivial
      | exn c' fs' => obtain ⟨x1, d1, e2, e3, r⟩ := r; exact ⟨x1, d1, e2, e3, r.mono gx.ff⟩
      | val dj => obtain ⟨v, e2, r⟩ := r; exact ⟨v, e2, r.mono gx.ff⟩
      | own dj =>
        obtain ⟨b, e2, f2, b2, t2⟩ := r
        subst e2
        have hb : b ≠ a := fun z => by subst z; exact hj (e.ds i j b d dj h q hs hx)
        refine ⟨b, rfl, ?_, b2, t2.mono gx.ff fun o => gx.hx b o hb⟩
        cases z : F' b with
        | none => rfl
        | some o =>
          rcases gx.new b o z with y | y | y
          · rw [f2] at y; cases y
          · obtain ⟨o', y'⟩ := t2.some; rw [y] at y'; cases y'
          · exact (hb y).elim
theorem ER.writeX (e : ER Γ G env σ F H) (h : env[i]? = some (.own d)) (hs : σ[i]? = some (some (.ref a))) (gx : GrX a F H F' H') (fa' : F' a = none) (t : Top Γ F' H' a d') : ER Γ G (env.set i (.own d')) σ F' H' := by
  obtain ⟨x0, hx0, a', e1, fa, ba, _⟩ := e.sl i _ h
  rw [hs] at hx0; cases hx0; cases e1
  have ek := e.killX h hs gx
  have hi : i < env.length := (List.getElem?_eq_some_iff.mp h).1
  refine ⟨by simp [e.len], ek.fh, ek.bh, ek.f0, ek.fr, fun j s q => ?_, fun j k b dj dk q1 q2 q3 q4 => ?_, fun x d0 hx q => ?_⟩
  · by_cases hj : i = j
    · subst hj
      rw [List.getElem?_set_self hi] at q; cases q
      exact ⟨_, hs, a, rfl, fa', ba, t⟩
    · rw [List.getElem?_set_ne hj] at q
      exact ek.sl j s (by rw [List.getElem?_set_ne hj]; exact q)
  · have ne : ∀ {j : Nat} {dj : D}, (env.set i (Slot.own d'))[j]? = some (Slot.own dj) → ∃ dj', env[j]? = some (Slot.own dj') := fun {j dj} q => by
      by_cases hj : i = j
      · subst hj; exact ⟨d, h⟩
      · rw [List.getElem?_set_ne hj] at q; exact ⟨dj, q⟩
    obtain ⟨_, q1⟩ := ne q1
    obtain ⟨_, q2⟩ := ne q2
    exact e.ds j k b _ _ q1 q2 q3 q4
  · by_cases h0 : i = 0
    · subst h0; exact e.me x d hx h
    · rw [List.getElem?_set_ne h0] at q; exact e.me x d0 hx q
end
/-- what a class read by its name must be -/
structure CI (K : PySem.W.Frag) (B : Addr) (mc : Value) (f : Addr) : Prop where
  rd : ClX.CRead K B mc
  at_ : PySem.W.findCls K (.ref B) mc "__init__" = some (.val (.ref f))
section
variable {X : Cx} {Γ : Gm} {W : WX} {k i : Nat} {n : Nat} {dfl : List D} {g : Nat → List D → List D → Res (List D)} {b x : Str} {p1 p2 p3 pos pos' : Pos} {e : Expr} {es : List Expr} {dl : Env → Res (List D)} {B f : Addr} {mc : Value}
/-- a call C.__init__(..) by values -/
theorem pe_super {pl : Sem Bool} {sp : Sp} {fd : FuncData} {ps : List Str} {dvs : List V} {ds : List Value} {t : TA} (ci : CI X.K B mc f) (F : FnOk X.prog X.w X.K X.mg X.base (L2.CX X.prog X.w) k f fd ps sp) (kp : PySem.W.keepIn X.K (.ref f) = true) (hr : Room k X.A) (hb : Binds X.K fd ps ds) (hd : Vals dvs ds) (tk : Takes X W)
    (hg : Gl X b) (hm : X.mg b = some (.ref B)) (ha : PA X (e :: es) t) (hdb : (b == ("__debug__" : Str)) = false := by decide)
    (hc : eval (.Call (.Attribute (.Name b p1) "__init__" p2) (e :: es) [] pos) X.env = (do
      let ov ← eval (.Name b p1) X.env
      standAt p2.atName
      let (f, first) ← holding [ov] (getMethod ov "__init__" pl)
      callWith pos f first (backTo pos (starEach (e :: es) X.env)) (backToKw pos (keywordEach [] X.env))) := by rfl)
    (he : starEach (e :: es) X.env = (false, eval e X.env) :: starEach es X.env := by rfl) (hpl : (backTo pos (starEach es X.env)).any (·.1) = false := by rfl) :
    PE X (.Call (.Attribute (.Name b p1) "__init__" p2) (e :: es) [] pos) (fun σ H Q => t σ H fun vs H1 => sp (vs ++ dvs) H1 Q (WE W σ)) := by
  refine ⟨fun pins s σ H Q I h => ?_⟩
  refine PySem.W.methodCall_KW (ld_glob I hg hm ?_ hdb) hc
  refine PySem.W.method_cls I.kIn ci.rd.ga (ClX.getcval_ok (v := .ref f) I ci.rd ⟨ci.at_, rfl⟩ fun s1 I1 => ?_)
  refine PySem.W.callWith_K (h₀ := X.base) I1.ok.mod.kin kp (thn (ha.run pos pins s1 σ H _ I1 h) fun us s2 ⟨vs, H2, I2, r, q⟩ => ⟨I2.kIn, ?_⟩) he hpl
  have r2 : Vals (vs ++ dvs) (us ++ ds) := r.append hd
  have hl : (us ++ ds).length = ps.length := by rw [← r2.length]; exact F.len _ _ _ _ q
  refine wpAny_call (codeAny_mono (F.run X.A X.stack s2 H2 ⟨us, []⟩ (us ++ ds) (vs ++ dvs) Q (WE W σ) hr I2.env0 (hb s2 us I2.kIn hl) r2 q) fun r s' hq => ?_)
  cases r with
  | error e => exact passAt tk σ pins H2 s2 e s' I2 hq
  | ok fl =>
    cases fl with
    | ret u => exact I2.after hq
    | next => exact False.elim hq
    | brk => exact False.elim hq
    | cont => exact False.elim hq
/-- Base.__init__(self, ..), self the own object of slot i -/
def dSup (i n : Nat) (dfl : List D) (g : Nat → List D → List D → Res (List D)) (dl : Env → Res (List D)) : Env → Out := fun env => match env[i]? with
  | some (.own (.obj c ds0)) => match dl env with
    | .ok ds => if ds.length + dfl.length = n then match g c ds0 (ds ++ dfl) with
      | .ok ds' => .nx (env.set i (.own (.obj c ds')))
      | .exc c' fs => .exc (env.set i .un) c' fs
      | .err => .err
      else .err
    | .exc c fs => .exc env c fs
    | .err => .err
  | _ => .err
theorem s_super {pl : Sem Bool} (hF : InD X.prog X.w X.K X.mg X.base Γ k f n dfl g) (ci : CI X.K B mc f) (hr : Room k X.A) (tk : Takes X W) (hg : Gl X b) (hm : X.mg b = some (.ref B)) (hp : PE X (.Name x p3) (tVar i)) (ha : PA X es (tA Γ W dl)) (hdb : (b == ("__debug__" : Str)) = false := by decide)
    (hc : eval (.Call (.Attribute (.Name b p1) "__init__" p2) (.Name x p3 :: es) [] pos) X.env = (do
      let ov ← eval (.Name b p1) X.env
      standAt p2.atName
      let (f, first) ← holding [ov] (getMethod ov "__init__" pl)
      callWith pos f first (backTo pos (starEach (.Name x p3 :: es) X.env)) (backToKw pos (keywordEach [] X.env))) := by rfl)
    (he : starEach (.Name x p3 :: es) X.env = (false, eval (.Name x p3) X.env) :: starEach es X.env := by rfl) (hpl : (backTo pos (starEach es X.env)).any (·.1) = false := by rfl)
    (hsw : swapsWith (.Call (.Attribute (.Name b p1) "__init__" p2) (.Name x p3 :: es) [] pos) none pos'.line X.env = pure false := by rfl) :
    PS X (.Expr (.Call (.Attribute (.Name b p1) "__init__" p2) (.Name x p3 :: es) [] pos) pos') (tS Γ W (dSup i n dfl g dl)) := by
  obtain ⟨fd, ps, dus, dvs, F1, bb, hv, hd⟩ := hF.ex
  refine PS.w (ps_expr (pe_super (W := W) ci F1 hF.kp hr bb hv tk hg hm (pa_cons hp ha he) hdb hc he hpl) hsw) fun Dd σ H ⟨G, env, F, er, q⟩ => ?_
  unfold dSup at q
  split at q
  · rename_i c ds0 hown
    obtain ⟨a, hσ, fa, ta⟩ := own_at er hown
    refine ⟨.ref a, hσ, G, env, F, er, ?_⟩
    cases z0 : dl env with
    | err => rw [z0] at q; exact q.elim
    | exc c fs => rw [z0] at q; exact fun F' H' d g x => q σ F' H' d g.ff (er.gr g) x
    | ok ds =>
      rw [z0] at q
      simp only at q
      intro F1 H1 g1 vs rd
      have er1 := er.gr g1
      obtain ⟨a', hσ', fa1, ta1⟩ := own_at er1 hown
      rw [hσ] at hσ'; cases hσ'
      split at q
      · rename_i hn
        refine ⟨a, vs ++ dvs, c, ds0, ds ++ dfl, F1, rfl, by rw [List.length_append]; exact hn, er1.fh, fa1, ta1, rd.append (hd F1), ?_⟩
        cases z : g c ds0 (ds ++ dfl) with
        | err => rw [z] at q; exact q.elim
        | exc c' fs => rw [z] at q; exact fun F' H' d gx xd => q σ F' H' d (g1.ff.trans gx.ff) (er1.killX hown hσ gx) xd
        | ok ds' => rw [z] at q; exact fun F' H' gx fx t => q σ F' H' (g1.ff.trans gx.ff) (er1.writeX hown hσ gx fx t)
      · exact q.elim
  · exact q.elim

/-! ### methods -/
/-- the method m of the class c -/
structure MeD (P : Program) (w : World) (K : PySem.W.Frag) (mg : Str → Option Value) (base : Heap) (Γ : Gm) (k : Nat) (m : Str) (n : Nat) (dfl : List D) (c : Nat) (g : List D → Res D) : Prop where
  cl : Cls K (Γ.cls c)
  nf : fIx (Γ.flds c) m = none
  ex : ∃ f, Meth K (Γ.cls c) m f ∧ FnD P w K mg base Γ k f n dfl g
def dMeth (n : Nat) (dfl : List D) (tab : List (Nat × (List D → Res D))) (da : Env → Res D) (dl : Env → Res (List D)) : Env → Res D := fun env => (da env).bind fun d => match d with
  | .obj c fs => match tab.lookup c with
    | some g => (dl env).bind fun ds => if (ds.length + 1) + dfl.length = n then g (.obj c fs :: (ds ++ dfl)) else .err
    | none => .err
  | _ => .err
variable {o : Expr} {m : Str} {apos : Pos} {tab : List (Nat × (List D → Res D))} {da : Env → Res D}
theorem e_meth {pl : Sem Bool} (hT : ∀ q ∈ tab, MeD X.prog X.w X.K X.mg X.base Γ k m n dfl q.1 q.2) (hr : Room k X.A) (tk : Takes X W) (ho : PE X o (tE Γ W da)) (ha : PA X (e :: es) (tA Γ W dl))
    (hst : starEach (e :: es) X.env = (false, eval e X.env) :: starEach es X.env := by rfl) (hpl : (backTo pos (starEach es X.env)).any (·.1) = false := by rfl)
    (ht : eval (.Call (.Attribute o m apos) (e :: es) [] pos) X.env = (do
      let ov ← eval o X.env
      standAt apos.atName
      let (f, first) ← holding [ov] (getMethod ov m pl)
      callWith pos f first (backTo pos (starEach (e :: es) X.env)) (backToKw pos (keywordEach [] X.env))) := by rfl) :
    PE X (.Call (.Attribute o m apos) (e :: es) [] pos) (tE Γ W (dMeth n dfl tab da dl)) := by
  refine ⟨fun pins s σ H Q I ⟨G, env, F, er, h⟩ => ?_⟩
  have hh := ho.run pins s σ H (fun v H1 => ∃ F1 d, ER Γ G env σ F1 H1 ∧ Rep Γ F1 d v ∧ post Γ W σ F1 H1 (match d with
    | .obj c fs => match tab.lookup c with
      | some g => (dl env).bind fun ds => if (ds.length + 1) + dfl.length = n then g (.obj c fs :: (ds ++ dfl)) else .err
      | none => .err
    | _ => .err) (kE Γ Q)) I ⟨G, env, F, er, h.bind.imp fun d F1 H1 _ g1 h1 v r => ⟨F1, d, er.gr g1, r, h1⟩⟩
  refine PySem.W.methodCall_KW (pl := pl) (thn hh fun u s1 ⟨v, H1, I1, rv, F1, d, er1, rd, q⟩ => ?_) ht
  cases d with
  | obj c fs => ?_
  | _ => exact q.elim
  simp only at q
  cases z : tab.lookup c with
  | none => rw [z] at q; exact q.elim
  | some g =>
    rw [z] at q
    simp only at q
    have T := hT _ (lookup_mem z)
    obtain ⟨f, M, FD⟩ := T.ex
    obtain ⟨a, dx, gs, rfl, hq, hl, rr⟩ := RepT.obj (Γ := Γ) er1.fh (.inl rd)
    obtain rfl : u = Value.ref a := rv
    refine getmeth_ok I1 hq T.cl M (fIx_none hl T.nf) ?_
    have hh2 := ha.run pos pins s1 σ H1 (fun vs H2 => ∃ F2 ds, ER Γ G env σ F2 H2 ∧ Reps Γ F2 ds vs ∧ Rep Γ F2 (.obj c fs) (.ref a) ∧ post Γ W σ F2 H2 (if (ds.length + 1) + dfl.length = n then g (.obj c fs :: (ds ++ dfl)) else .err) (kE Γ Q)) I1
      ⟨G, env, F1, er1, q.bind.imp fun ds F2 H2 _ g2 h2 vs r => ⟨F2, ds, er1.gr g2, r, rd.mono g2.ff, h2⟩⟩
    refine PySem.W.callWith_K (first := [.ref a]) (h₀ := X.base) I1.ok.mod.kin M.kp (thn hh2 fun us s2 ⟨vs, H2, I2, r, F2, ds, er2, rds, rs, q2⟩ => ⟨I2.kIn, ?_⟩) hst hpl
    split at q2
    · rename_i hn
      exact run_fd (us := .ref a :: us) (vs := .ref a :: vs) (ds := .obj c fs :: ds) FD hr tk I2 (.cons rfl r) (by simpa using hn) er2.fh (.cons rs rds) q2
    · exact q2.elim
theorem e_meth0 {pl : Sem Bool} (hT : ∀ q ∈ tab, MeD X.prog X.w X.K X.mg X.base Γ k m n dfl q.1 q.2) (hr : Room k X.A) (tk : Takes X W) (ho : PE X o (tE Γ W da))
    (ht : eval (.Call (.Attribute o m apos) [] [] pos) X.env = (do
      let ov ← eval o X.env
      standAt apos.atName
      let (f, first) ← holding [ov] (getMethod ov m pl)
      callWith pos f first (backTo pos (starEach [] X.env)) (backToKw pos (keywordEach [] X.env))) := by rfl) :
    PE X (.Call (.Attribute o m apos) [] [] pos) (tE Γ W (dMeth n dfl tab da dNil)) := by
  refine ⟨fun pins s σ H Q I ⟨G, env, F, er, h⟩ => ?_⟩
  have hh := ho.run pins s σ H (fun v H1 => ∃ F1 d, ER Γ G env σ F1 H1 ∧ Rep Γ F1 d v ∧ post Γ W σ F1 H1 (match d with
    | .obj c fs => match tab.lookup c with
      | some g => (dNil env).bind fun ds => if (ds.length + 1) + dfl.length = n then g (.obj c fs :: (ds ++ dfl)) else .err
      | none => .err
    | _ => .err) (kE Γ Q)) I ⟨G, env, F, er, h.bind.imp fun d F1 H1 _ g1 h1 v r => ⟨F1, d, er.gr g1, r, h1⟩⟩
  refine PySem.W.methodCall_KW (pl := pl) (thn hh fun u s1 ⟨v, H1, I1, rv, F1, d, er1, rd, q⟩ => ?_) ht
  cases d with
  | obj c fs => ?_
  | _ => exact q.elim
  simp only at q
  cases z : tab.lookup c with
  | none => rw [z] at q; exact q.elim
  | some g =>
    rw [z] at q
    simp only [dNil, Res.bind_ok] at q
    have T := hT _ (lookup_mem z)
    obtain ⟨f, M, FD⟩ := T.ex
    obtain ⟨a, dx, gs, rfl, hq, hl, rr⟩ := RepT.obj (Γ := Γ) er1.fh (.inl rd)
    obtain rfl : u = Value.ref a := rv
    refine getmeth_ok I1 hq T.cl M (fIx_none hl T.nf) ?_
    refine PySem.W.callWith_K0 (first := [.ref a]) I1.kIn M.kp ?_
    split at q
    · rename_i hn
      exact run_fd (us := [.ref a]) (vs := [.ref a]) (ds := [.obj c fs]) FD hr tk I1 (.cons rfl .nil) (by simpa using hn) er1.fh (.cons rd .nil) q
    · exact q.elim

/-! ### isinstance by own classes -/
structure IsO (K : PySem.W.Frag) (Γ : Gm) (C : Addr) (c : Nat) (b : Bool) : Prop where
  cl : Cls K (Γ.cls c)
  ha : PySem.W.findIn K (.ref (Γ.cls c)) "__class__" = some (some (.builtin "object.__class__"))
  hn : PySem.W.specialIn K (.builtin "object.__class__") "__get__" = some (some (.builtin "getset_descriptor.__get__"))
  ht : PySem.W.takesIn K (.builtin "object.__class__") = some true
  hm : PySem.W.mroIn K (Γ.cls c) (.type "object") = some true
  ko : PySem.W.kitOne K (.ref (Γ.cls c)) (.ref C) = some b
def bIsO (tab : List (Nat × Bool)) : D → Option D
  | .obj c _ => (tab.lookup c).map .bl
  | _ => none
theorem e_isO {C : Addr} {y : Str} {tab : List (Nat × Bool)} (hk : Γ.K = X.K) (hg : Gl X "isinstance") (hm : X.mg "isinstance" = none) (ha : PE X e (tW Γ W da)) (hg2 : Gl X y) (hm2 : X.mg y = some (.ref C)) (hT : ∀ q ∈ tab, IsO X.K Γ C q.1 q.2) (hdb : (y == ("__debug__" : Str)) = false := by decide)
    (hs : starEach [e, .Name y p2] X.env = (false, eval e X.env) :: starEach [.Name y p2] X.env := by rfl) (hpl : (backTo pos (starEach [.Name y p2] X.env)).any (·.1) = false := by rfl) (hs2 : starEach [.Name y p2] X.env = (false, eval (.Name y p2) X.env) :: starEach [] X.env := by rfl) :
    PE X (.Call (.Name "isinstance" p1) [e, .Name y p2] [] pos) (tE Γ W (dUn (bIsO tab) da)) :=
  PE.w (pe_callB call_isi hg hm (by decide +kernel) (pa_cons ha (pa_cons (pe_glob (v := .ref C) hg2 hm2 rfl hdb) pa_nil hs2) hs) (by decide) (by decide) hs hpl) fun σ H Q ⟨G, env, F, er, h⟩ => by
  refine ⟨G, env, F, er, h.bind.imp fun d F1 H1 _ g1 h1 v r => ?_⟩
  have er1 := er.gr g1
  cases d with
  | obj c fs => ?_
  | _ => exact h1.elim
  unfold bIsO at h1
  simp only at h1
  cases z : tab.lookup c with
  | none => rw [z] at h1; exact h1.elim
  | some b =>
    rw [z] at h1
    have T := hT _ (lookup_mem z)
    obtain ⟨a, dx, gs, rfl, hq, hl, rr⟩ := r.obj er1.fh
    exact ⟨.ref a, .ref C, .ref (Γ.cls c), .ref C, b, rfl, .own C, .base (.ins hq T.cl T.ha T.hn T.ht T.hm), T.ko, h1.ok er1 _ rep_bl⟩
end
end Dn

/-! Den15.lean -/
namespace Dn
open PySem PySem.Spec PyProof.Rows L2

/-! ### raise -/
section
variable {X : Cx} {Γ : Gm} {W : WX} {k c : Nat} {x m f : Str} {j : Nat} {p p2 pos : Pos} {e : Expr} {es : List Expr} {da : Env → Res D}
def veB : List Value := [.type "ValueError", .type "Exception", .type "BaseException", .type "object"]
def dRaise0 (c : Nat) : Env → Out := fun env => .exc env c none
/-- raise C('text') of a class without __init__ -/
theorem s_raise0 {pos2 : Pos} (hc : X.calm = true) (tk : Takes X W) (q : PySem.W.excIn X.K (Γ.cls c) veB "ValueError.__new__" = true) (gC : X.mg x = some (.ref (Γ.cls c))) (kC : PySem.W.keepIn X.K (.ref (Γ.cls c)) = true)
    (h1 : PySem.W.subIn X.K (.ref (Γ.cls c)) (.type "BaseException") = some true) (h2 : PySem.W.typeIn X.K (.ref (Γ.cls c)) = some (.type "type")) (hg : Gl X x) (hdb : (x == ("__debug__" : Str)) = false := by decide) :
    PS X (.Raise (some (.Call (.Name x p) [.Constant (.str m) j p2] [] pos)) none pos2) (tS Γ W (dRaise0 c)) :=
  PS.w (ps_raise hc tk (pmk_own PySem.F.excBase_ValueError q gC kC (raises_own h1 h2) hg hdb)) fun Dd σ H ⟨G, env, F, er, q⟩ => q σ F H none (Same.refl _) er rfl
/-- what the __init__ of an exception with one field promises -/
def spX (cs : List Addr) (f : Str) : Sp := fun vs H Q E => ∃ a C y, vs = [.ref a, y] ∧ C ∈ cs ∧ H a = some (exo a C none) ∧ ∀ dx, H dx = none → dx ≠ a → Q .non (upd (upd H dx (exd dx [(f, y)])) a (exo a C (some dx)))
/-- CallError.__init__(self, 'text'), CallError without __init__ of its own -/
structure CV (K : PySem.W.Frag) (B : Addr) (mc : Value) : Prop where
  rd : ClX.CRead K B mc
  at_ : PySem.W.findCls K (.ref B) mc "__init__" = some (.val (.builtin "ValueError.__init__"))
theorem pe_veinitC {b : Str} {B : Addr} {mc : Value} {ta : TA} {p1 : Pos} {pl : Sem Bool} (ci : CV X.K B mc) (hg : Gl X b) (hm : X.mg b = some (.ref B)) (ha : PA X (e :: es) ta) (hdb : (b == ("__debug__" : Str)) = false := by decide)
    (hc : eval (.Call (.Attribute (.Name b p1) "__init__" p2) (e :: es) [] pos) X.env = (do
      let ov ← eval (.Name b p1) X.env
      standAt p2.atName
      let (f, first) ← holding [ov] (getMethod ov "__init__" pl)
      callWith pos f first (backTo pos (starEach (e :: es) X.env)) (backToKw pos (keywordEach [] X.env))) := by rfl)
    (he : starEach (e :: es) X.env = (false, eval e X.env) :: starEach es X.env := by rfl) (hpl : (backTo pos (starEach es X.env)).any (·.1) = false := by rfl) :
    PE X (.Call (.Attribute (.Name b p1) "__init__" p2) (e :: es) [] pos) (tVeI X.K ta) := by
  refine ⟨fun pins s σ H Q I h => ?_⟩
  refine PySem.W.methodCall_KW (ld_glob I hg hm ?_ hdb) hc
  refine PySem.W.method_cls I.kIn ci.rd.ga (PySem.W.cls_value I.kIn ci.rd.rd ci.at_ rfl ?_)
  show wpAny _ _ (callWith pos (Value.builtin "ValueError.__init__") [] (backTo pos (starEach (e :: es) X.env)) []) _ _ _
  refine PyProof.Rows.callWith_method1 (thn (ha.run pos pins _ σ H _ (I.tok _) h) fun us s1 ⟨vs, H1, I1, r1, a, C, ws, ev, hl, T, ea, q⟩ => ?_) he hpl
  subst ev
  cases r1 with
  | @cons _ u0 _ ur ra rw' =>
    obtain rfl : u0 = Value.ref a := ra
    have hlen : ur.length ≤ sizeLine := by
      rw [← Paired.length rw', sizeLine_eq]
      omega
    exact oinit_ok T I1 ea hlen fun s' J => ⟨.non, H1, J, rfl, q⟩
end
section
variable {P : Program} {w : World} {K : PySem.W.Frag} {mg : Str → Option Value} {base : Heap}
theorem xinit_ok {x qual f m : Str} {st : Stmt} {fa : Addr} {fd : FuncData} {N ps : List Str} {k : Nat} {cs : List Addr} (F : Fun K x qual st fa fd) (S : FnScope N ps (defScope st)) (hn : ps.length = 2)
    (hT : ∀ C ∈ cs, OexC K C ∧ PySem.W.findIn K (.ref C) f = some none)
    (body : ∀ (cdv : Value) (A : Around) (outer : List PySem.Env) (s : Shared) (H : Hp) (E : XK), Room k (A.deeper (envOfC qual (defScope st) s.heap.objs.size fa cdv)) →
      PSs (cxOf (L2.CX P w) P w K mg base N qual (defScope st) fa cdv A outer s H E) (defBody st) (tSeq (tDrop (tVeI K (tCons (tVar 0) (tCons (tC (.str m)) tNil)))) (tOst K f (tVar 0) (tVar 1)))) :
    FnOk P w K mg base (L2.CX P w) (k + 1) fa fd ps (spX cs f) := by
  refine F.okX S (fun vs H Q E ⟨a, C, y, e, _⟩ => by rw [e, hn]; rfl) (fun cdv A outer s H vs Q E hr h => ⟨_, body cdv A outer s H E hr, ?_⟩)
  obtain ⟨a, C, y, rfl, hC, ha, q⟩ := h
  obtain ⟨T, hno⟩ := hT C hC
  refine ⟨.ref a, rfl, ?_⟩
  refine ⟨a, C, [.str m], rfl, by simp, T, ha, ?_⟩
  refine ⟨y, rfl, .ref a, rfl, a, C, rfl, T, hno, .inl ⟨ha, fun dx h1 h2 => q dx h1 h2⟩⟩
end
section
variable {X : Cx} {Γ : Gm} {W : WX} {k c : Nat} {x f : Str} {p p2 pos pos2 : Pos} {e : Expr} {es : List Expr} {da : Env → Res D} {cs : List Addr}
/-- an exception class with an __init__ of one argument, kept in f -/
structure XcD (P : Program) (w : World) (K : PySem.W.Frag) (mg : Str → Option Value) (base : Heap) (k : Nat) (C : Addr) (f : Str) : Prop where
  ox : OexC K C
  ex : ∃ fI fd ps cs, FnOk P w K mg base (L2.CX P w) k fI fd ps (spX cs f) ∧ Binds K fd ps [] ∧ C ∈ cs ∧ PySem.W.findIn K (.ref C) "__init__" = some (some (.ref fI)) ∧ PySem.W.typeIn K (.ref fI) = some (.type "function")
def dRaise1 (c : Nat) (da : Env → Res D) : Env → Out := fun env => match da env with
  | .ok d => .exc env c (some [d])
  | .exc c fs => .exc env c fs
  | .err => .err
theorem s_raise1 (hc : X.calm = true) (tk : Takes X W) (hX : XcD X.prog X.w X.K X.mg X.base k (Γ.cls c) f) (hfl : Γ.flds c = [f]) (hr : Room (k + 1) X.A) (hx : Passes (L2.CX X.prog X.w) X (fun _ _ _ => False)) (hg : Gl X x) (hm : X.mg x = some (.ref (Γ.cls c))) (ha : PE X e (tE Γ W da))
    (hdb : (x == ("__debug__" : Str)) = false := by decide) (he : starEach [e] X.env = (false, eval e X.env) :: starEach [] X.env := by rfl) :
    PS X (.Raise (some (.Call (.Name x p) [e] [] pos)) none pos2) (tS Γ W (dRaise1 c da)) := by
  obtain ⟨fI, fd, ps, cs, F1, hb, hC, iC, tI⟩ := hX.ex
  refine PS.w (ps_raise hc tk (pmk_oex hX.ox iC tI F1 hr hb .nil hx hg hm (pa_cons ha pa_nil he) hdb he rfl)) fun Dd σ H ⟨G, env, F, er, q⟩ => ?_
  refine ⟨G, env, F, er, ?_⟩
  unfold dRaise1 at q
  cases z : da env with
  | err => rw [z] at q; exact q.elim
  | exc c fs => rw [z] at q; exact fun F' H' d g x => q σ F' H' d g.ff (er.gr g) x
  | ok d =>
    rw [z] at q
    intro F1 H1 g1 y ry
    have er1 := er.gr g1
    refine ⟨by simp, fun a hna => ⟨a, _, y, rfl, hC, upd_same, fun dx hdx ne => ⟨rfl, dx, [(f, y)], upd_same, by rw [upd_ne ne, upd_same], ?_, ?_⟩⟩⟩
    · rw [upd_ne ne] at hdx; exact hdx
    · rw [upd_ne ne] at hdx
      have fdx : F1 dx = none := by
        cases z : F1 dx with
        | none => rfl
        | some o => have := er1.fh dx o z; rw [hdx] at this; cases this
      have sf : Same F1 (upd F1 dx (.xd [(f, y)])) := fun b u q => by rw [upd_ne (ne_of_none q fdx)]; exact q
      have hh : ∀ b o, H1 b = some o → (upd (del (upd (upd (upd H1 a (exo a (Γ.cls c) none)) dx (exd dx [(f, y)])) a (exo a (Γ.cls c) (some dx))) a) dx (.xd [(f, y)])) b = some o := fun b o q => by
        have n1 : b ≠ a := ne_of_none q hna
        have n2 : b ≠ dx := ne_of_none q hdx
        rw [upd_ne n2, del_ne n1, upd_ne n1, upd_ne n2, upd_ne n1]; exact q
      have g2 : Gr F1 H1 (upd F1 dx (.xd [(f, y)])) (upd (del (upd (upd (upd H1 a (exo a (Γ.cls c) none)) dx (exd dx [(f, y)])) a (exo a (Γ.cls c) (some dx))) a) dx (.xd [(f, y)])) := by
        refine ⟨sf, fun b u q => ?_, hh, fun b u q => ?_⟩
        · by_cases hb : b = dx
          · subst hb; rw [upd_same] at q ⊢; exact q
          · rw [upd_ne hb] at q; exact hh b u (er1.fh b u q)
        · by_cases hb : b = dx
          · subst hb; exact .inr hdx
          · rw [upd_ne hb] at q; exact .inl q
      exact q σ _ _ (some dx) (g1.ff.trans sf) (er1.gr g2) ⟨dx, [(f, y)], rfl, upd_same, by rw [hfl]; rfl, .cons (ry.mono sf) .nil⟩
end

/-! ### except suites -/
mutual
theorem Rep.xa {Γ : Gm} {q : Option (Addr × Value × Option Addr)} {F : Hp} : ∀ (d : D) (v : V), Rep { Γ with xa := q } F d v ↔ Rep Γ F d v
  | .non, _ => by rw [Rep, Rep]
  | .bl _, _ => by rw [Rep, Rep]
  | .int _, _ => by rw [Rep, Rep]
  | .str _, _ => by rw [Rep, Rep]
  | .ty _, _ => by rw [Rep, Rep]
  | .cl _, _ => by rw [Rep, Rep]
  | .scr _, _ => by rw [Rep, Rep]
  | .lst ds, _ => by rw [Rep, Rep]; simp only [Reps.xa ds]
  | .tup ds, _ => by rw [Rep, Rep]; simp only [Reps.xa ds]
  | .obj c ds, _ => by rw [Rep, Rep]; simp only [Reps.xa ds]
  | .dic ks ds, _ => by rw [Rep, Rep]; simp only [Reps.xa ds]
theorem Reps.xa {Γ : Gm} {q : Option (Addr × Value × Option Addr)} {F : Hp} : ∀ (ds : List D) (vs : List V), Reps { Γ with xa := q } F ds vs ↔ Reps Γ F ds vs
  | [], _ => by rw [Reps, Reps]
  | d :: ds, _ => by rw [Reps, Reps]; simp only [Rep.xa d, Reps.xa ds]
end
def Gm.at (Γ : Gm) (q : Option (Addr × Value × Option Addr)) : Gm := { Γ with xa := q }
section
variable {Γ : Gm} {q : Option (Addr × Value × Option Addr)} {F H B : Hp}
theorem Top.xa {a : Addr} : ∀ {d : D}, Top (Γ.at q) F H a d ↔ Top Γ F H a d
  | .lst ds => by unfold Top Gm.at; simp only [Reps.xa]
  | .obj c ds => by unfold Top Gm.at; simp only [Reps.xa]
  | .dic ks ds => by unfold Top Gm.at; simp only [Reps.xa]
  | .non => Iff.rfl
  | .bl _ => Iff.rfl
  | .int _ => Iff.rfl
  | .str _ => Iff.rfl
  | .ty _ => Iff.rfl
  | .cl _ => Iff.rfl
  | .scr _ => Iff.rfl
  | .tup _ => Iff.rfl
theorem XD.xa {c : Nat} {d : Option Addr} : ∀ {fs : Option (List D)}, XD (Γ.at q) F c fs d ↔ XD Γ F c fs d
  | none => Iff.rfl
  | some ds => by unfold XD Gm.at; simp only [Reps.xa]
/-- no slot of it is a caught exception -/
def noExn (env : Env) : Prop := ∀ (i : Nat) c fs, env[i]? ≠ some (Slot.exn c fs)
theorem ER.xa {G : Gd} {env : Env} {σ : L2.St} (e : ER Γ G env σ F H) (h : noExn env) : ER (Γ.at q) G env σ F H :=
  ⟨e.len, e.fh, e.bh, e.f0, e.fr, fun i s z => by
    obtain ⟨x, hx, r⟩ := e.sl i s z
    refine ⟨x, hx, ?_⟩
    cases s with
    | un => trivial
    | val d => obtain ⟨v, e1, r⟩ := r; exact ⟨v, e1, (Rep.xa d v).mpr r⟩
    | own d => obtain ⟨a, e1, f, b, t⟩ := r; exact ⟨a, e1, f, b, Top.xa.mpr t⟩
    | exn c fs => exact (h i c fs z).elim, e.ds, e.me⟩
theorem ER.unxa {G : Gd} {env : Env} {σ : L2.St} (e : ER (Γ.at q) G env σ F H) (h : noExn env) : ER Γ G env σ F H :=
  ⟨e.len, e.fh, e.bh, e.f0, e.fr, fun i s z => by
    obtain ⟨x, hx, r⟩ := e.sl i s z
    refine ⟨x, hx, ?_⟩
    cases s with
    | un => trivial
    | val d => obtain ⟨v, e1, r⟩ := r; exact ⟨v, e1, (Rep.xa d v).mp r⟩
    | own d => obtain ⟨a, e1, f, b, t⟩ := r; exact ⟨a, e1, f, b, Top.xa.mp t⟩
    | exn c fs => exact (h i c fs z).elim, e.ds, e.me⟩
end
end Dn

/-! Den16.lean -/
namespace Dn
open PySem PySem.Spec PyProof.Rows L2

theorem ER.setS {Γ : Gm} {G : Gd} {env : Env} {σ : L2.St} {F H : Hp} (e : ER Γ G env σ F H) (i : Nat) {s : Slot} {x : Option V} (hs : ∀ d, s ≠ .own d) (r : SRep Γ F H G.B x s) : ER Γ G (env.set i s) (σ.set i x) F H := by
  have ne : ∀ {j dj}, (env.set i s)[j]? = some (.own dj) → i ≠ j ∧ env[j]? = some (.own dj) := fun {j dj} q => by
    by_cases hj : i = j
    · subst hj
      have hl : i < env.length := by
        have := (List.getElem?_eq_some_iff.mp q).1
        simpa using this
      rw [List.getElem?_set_self hl] at q; cases q
      exact (hs dj rfl).elim
    · rw [List.getElem?_set_ne hj] at q; exact ⟨hj, q⟩
  refine ⟨by simp [e.len], e.fh, e.bh, e.f0, e.fr, fun j s' q => ?_, fun j k a dj dk q1 q2 q3 q4 => ?_, fun y d0 hx q => ?_⟩
  · by_cases hj : i = j
    · subst hj
      have hl : i < env.length := by
        have := (List.getElem?_eq_some_iff.mp q).1
        simpa using this
      rw [List.getElem?_set_self hl] at q; cases q
      exact ⟨x, by rw [List.getElem?_set_self (by rw [e.len]; exact hl)], r⟩
    · rw [List.getElem?_set_ne hj] at q
      obtain ⟨x, a, b⟩ := e.sl j s' q
      exact ⟨x, by rw [List.getElem?_set_ne hj]; exact a, b⟩
  · obtain ⟨n1, q1⟩ := ne q1
    obtain ⟨n2, q2⟩ := ne q2
    rw [List.getElem?_set_ne n1] at q3
    rw [List.getElem?_set_ne n2] at q4
    exact e.ds j k a dj dk q1 q2 q3 q4
  · obtain ⟨n0, q⟩ := ne q
    rw [List.getElem?_set_ne n0]; exact e.me y d0 hx q
/-- a caught exception is forgotten -/
def unx : Slot → Slot
  | .exn _ _ => .un
  | s => s
def strip (env : Env) : Env := env.map unx
theorem ER.strip {Γ : Gm} {G : Gd} {env : Env} {σ : L2.St} {F H : Hp} (e : ER Γ G env σ F H) : ER Γ G (Dn.strip env) σ F H := by
  have up : ∀ {j : Nat} {s : Slot}, (Dn.strip env)[j]? = some s → ∃ s0, env[j]? = some s0 ∧ s = unx s0 := fun {j s} q => by
    unfold Dn.strip at q
    rw [List.getElem?_map] at q
    cases z : env[j]? with
    | none => rw [z] at q; cases q
    | some s0 => rw [z] at q; cases q; exact ⟨s0, rfl, rfl⟩
  have own : ∀ {j : Nat} {d : D}, (Dn.strip env)[j]? = some (Slot.own d) → env[j]? = some (Slot.own d) := fun {j d} q => by
    obtain ⟨s0, z, e⟩ := up q
    cases s0 <;> first | (cases e; exact z) | cases e
  refine ⟨by simp [Dn.strip, e.len], e.fh, e.bh, e.f0, e.fr, fun j s q => ?_, fun j k a dj dk q1 q2 => e.ds j k a dj dk (own q1) (own q2), fun y d0 hx q => e.me y d0 hx (own q)⟩
  obtain ⟨s0, z, rfl⟩ := up q
  obtain ⟨x, hx, r⟩ := e.sl j s0 z
  refine ⟨x, hx, ?_⟩
  cases s0 with
  | exn c fs => trivial
  | un => exact r
  | val d => exact r
  | own d => exact r
theorem noExn_strip (env : Env) : noExn (strip env) := fun i c fs q => by
  unfold strip at q
  rw [List.getElem?_map] at q
  cases z : env[i]? with
  | none => rw [z] at q; cases q
  | some s0 => rw [z] at q; cases s0 <;> cases q

/-- behind a suite: slot i is unbound -/
def outS (f : Env → Env) : Out → Out
  | .nx e => .nx (f e)
  | .bk e => .bk (f e)
  | .ct e => .ct (f e)
  | .ret d => .ret d
  | _ => .err
def dTryAs (tab : List (Nat × Bool)) (i : Nat) (body suite : Env → Out) : Env → Out := fun env => match body env with
  | .exc e c fs => match tab.lookup c with
    | some true => outS (fun e => strip (e.set i .un)) (suite ((strip e).set i (.exn c fs)))
    | some false => .exc e c fs
    | none => .err
  | o => o
def dTryO (tab : List (Nat × Bool)) (body suite : Env → Out) : Env → Out := fun env => match body env with
  | .exc e c fs => match tab.lookup c with
    | some true => outS id (suite e)
    | some false => .exc e c fs
    | none => .err
  | o => o
section
variable {X : Cx} {Γ : Gm} {W : WX} {x n : Str} {i : Nat} {body suite : List Stmt} {b₀ : Stmt} {np pos pos' : Pos} {tab : List (Nat × Bool)} {bden sden : Env → Out} {cv : Value}
theorem s_try_as (hs : X.stack = X.env :: X.outer) (hf : X.env.frame = some X.env.locals) (hN : X.N.Nodup) (hi : X.N[i]? = some n) (hln : X.env.kindOf n = some .local) (hc : Names X x cv) (tk : Takes X W)
    (hT : ∀ q ∈ tab, PySem.W.exmOne X.K (.ref (Γ.cls q.1)) cv = some q.2)
    (hb : ∀ (W : WX) (pn : List (Addr × Obj)) (xe : Value → Shared → Prop), Takes (X.tr pn xe) W → PassesOwn (model X.prog X.w) X.A X.env xe → PSs (X.tr pn xe) body (tS Γ W bden))
    (hsu : ∀ (a : Addr) (oe : Obj) (cls : Value) (d : Option Addr) (pn : List (Addr × Obj)), Zc cls d oe → (∃ vs, oe.data = .fields vs) → PSs (X.suite a ((a, oe) :: pn)) (b₀ :: suite) (tS (Γ.at (some (a, cls, d))) W0 sden)) :
    PS X (.Try body [.ExceptHandler (some (.Name x np)) (some n) (b₀ :: suite) pos'] [] [] pos) (tS Γ W (dTryAs tab i bden sden)) :=
  PS.w (ps_try_as (tb := fun W => tS Γ W bden) (ts := fun a cls d => tS (Γ.at (some (a, cls, d))) W0 sden) hs hf hN hi hln hc tk hb hsu) fun Dd σ H ⟨G, env, F, er, q⟩ => by
  refine ⟨G, env, F, er, ?_⟩
  unfold dTryAs at q
  cases z : bden env with
  | nx e => rw [z] at q; exact q
  | ret d => rw [z] at q; exact q
  | bk e => rw [z] at q; exact q
  | ct e => rw [z] at q; exact q
  | err => rw [z] at q; exact q
  | exc e c fs =>
    rw [z] at q
    simp only at q
    intro σ' F' H' d sF er' xd
    cases z2 : tab.lookup c with
    | none => rw [z2] at q; exact q.elim
    | some b =>
      rw [z2] at q
      refine ⟨b, hT _ (lookup_mem z2), fun hb' a hna => ?_, fun hb' => ?_⟩
      · subst hb'
        have er2 := (er'.strip.xa (q := some (a, .ref (Γ.cls c), d)) (noExn_strip e)).setS i (s := .exn c fs) (x := some (.ref a)) (fun d h => nomatch h) ⟨a, d, rfl, rfl, XD.xa.mpr xd⟩
        refine ⟨G, _, F', er2, ?_⟩
        have back : ∀ {e' σ'' F'' H''}, ER (Γ.at (some (a, .ref (Γ.cls c), d))) G e' σ'' F'' H'' → ER Γ G (strip (e'.set i .un)) (σ''.set i none) F'' H'' := fun {e' σ'' F'' H''} er3 =>
          ((er3.setS i (s := .un) (x := none) (fun d h => nomatch h) trivial).strip).unxa (noExn_strip _)
        simp only at q
        cases z3 : sden ((strip e).set i (.exn c fs)) with
        | nx e' => rw [z3] at q; exact fun σ'' F'' H'' s er3 => q _ F'' H'' (sF.trans s) (back er3)
        | bk e' => rw [z3] at q; exact fun σ'' F'' H'' s er3 => q _ F'' H'' (sF.trans s) (back er3)
        | ct e' => rw [z3] at q; exact fun σ'' F'' H'' s er3 => q _ F'' H'' (sF.trans s) (back er3)
        | ret d' => rw [z3] at q; exact fun v e' σ'' F'' H'' s er3 r => q v _ _ F'' H'' (sF.trans s) (back er3) ((Rep.xa d' v).mp r)
        | exc e' c' fs' => rw [z3] at q; exact q.elim
        | err => rw [z3] at q; exact q.elim
      · subst hb'
        exact q σ' F' H' d sF er' xd
theorem s_try_only (hs : X.stack = X.env :: X.outer) (hf : X.env.frame = some X.env.locals) (hc : Names X x cv) (tk : Takes X W)
    (hT : ∀ q ∈ tab, PySem.W.exmOne X.K (.ref (Γ.cls q.1)) cv = some q.2)
    (hb : ∀ (W : WX) (pn : List (Addr × Obj)) (xe : Value → Shared → Prop), Takes (X.tr pn xe) W → PassesOwn (model X.prog X.w) X.A X.env xe → PSs (X.tr pn xe) body (tS Γ W bden))
    (hsu : ∀ (a : Addr) (oe : Obj) (cls : Value) (d : Option Addr) (pn : List (Addr × Obj)), Zc cls d oe → (∃ vs, oe.data = .fields vs) → PSs (X.suite a ((a, oe) :: pn)) (b₀ :: suite) (tS Γ W0 sden)) :
    PS X (.Try body [.ExceptHandler (some (.Name x np)) none (b₀ :: suite) pos'] [] [] pos) (tS Γ W (dTryO tab bden sden)) :=
  PS.w (ps_try_only (tb := fun W => tS Γ W bden) (ts := fun a cls d => tS Γ W0 sden) hs hf hc tk hb hsu) fun Dd σ H ⟨G, env, F, er, q⟩ => by
  refine ⟨G, env, F, er, ?_⟩
  unfold dTryO at q
  cases z : bden env with
  | nx e => rw [z] at q; exact q
  | ret d => rw [z] at q; exact q
  | bk e => rw [z] at q; exact q
  | ct e => rw [z] at q; exact q
  | err => rw [z] at q; exact q
  | exc e c fs =>
    rw [z] at q
    simp only at q
    intro σ' F' H' d sF er' xd
    cases z2 : tab.lookup c with
    | none => rw [z2] at q; exact q.elim
    | some b =>
      rw [z2] at q
      refine ⟨b, hT _ (lookup_mem z2), fun hb' a hna => ?_, fun hb' => ?_⟩
      · subst hb'
        refine ⟨G, _, F', er', ?_⟩
        simp only at q
        cases z3 : sden e with
        | nx e' => rw [z3] at q; exact fun σ'' F'' H'' s er3 => q _ F'' H'' (sF.trans s) er3
        | bk e' => rw [z3] at q; exact fun σ'' F'' H'' s er3 => q _ F'' H'' (sF.trans s) er3
        | ct e' => rw [z3] at q; exact fun σ'' F'' H'' s er3 => q _ F'' H'' (sF.trans s) er3
        | ret d' => rw [z3] at q; exact fun v e' σ'' F'' H'' s er3 r => q v _ _ F'' H'' (sF.trans s) er3 r
        | exc e' c' fs' => rw [z3] at q; exact q.elim
        | err => rw [z3] at q; exact q.elim
      · subst hb'
        exact q σ' F' H' d sF er' xd
end

/-! ### what is asked of a caught exception -/
section
variable {X : Cx} {Γ : Gm} {W : WX} {i : Nat} {a : Addr} {oe : Obj} {cls : Value} {d : Option Addr} {pn : List (Addr × Obj)} {x y : Str} {p p1 p2 pos : Pos}
/-- isinstance(e, C) | isinstance(e, (C, ..)), by a table of the classes -/
def dIsE (tab : List (Nat × Bool)) (i : Nat) : Env → Res D := fun env => match env[i]? with
  | some (.exn c _) => op? ((tab.lookup c).map D.bl)
  | _ => .err
structure ExO (K : PySem.W.Frag) (D : Addr) : Prop where
  hcl : PySem.W.isClsIn K D = true
  hg : PySem.W.findIn K (.ref D) "__getattribute__" = some (some (.builtin "BaseException.__getattribute__"))
  hk : PySem.W.findIn K (.ref D) "__getattr__" = some none
  hs : PySem.W.subIn K (.ref D) (.type "BaseException") = some true
  hd : PySem.W.hasDictIn K D = true
  ha : PySem.W.findIn K (.ref D) "__class__" = some (some (.builtin "object.__class__"))
  hn : PySem.W.specialIn K (.builtin "object.__class__") "__get__" = some (some (.builtin "getset_descriptor.__get__"))
  ht : PySem.W.takesIn K (.builtin "object.__class__") = some true
  hm : PySem.W.mroIn K D (.type "object") = some true
/-- what a call of isinstance on the caught exception asks: c is one class, or a tuple of classes that was just laid -/
def rIsX (K : PySem.W.Frag) (a : Addr) (cls : Value) : List V → Hp → VK → Prop := fun xs H Q => ∃ (D : Addr) (b : Bool), cls = .ref D ∧ ExO K D ∧
  ((∃ (c : V) (cv : Value), xs = [.ref a, c] ∧ ClsV c cv ∧ PySem.W.kitOne K (.ref D) cv = some b) ∨
    ∃ (tp : Addr) (cs : List V) (us : List Value), xs = [.ref a, .ref tp] ∧ H tp = some (.tup cs) ∧ Paired ClsV cs us ∧ PySem.W.kitAny K (.ref D) us = some b) ∧ Q (.bl b) H
theorem exc_inst {pins : List (Addr × Obj)} {σ : L2.St} {H : Hp} {s : Shared} {D : Addr} (hz : Zc (.ref D) d oe) (hf : ∃ vs, oe.data = .fields vs) (I : Inv (X.suite a ((a, oe) :: pn)) pins σ H s) (hd : ∀ dd, d = some dd → ∃ fs, H dd = some (.xd fs)) :
    ∃ od, PySem.W.InstAt s.heap a oe D od := by
  obtain ⟨hget, _⟩ := I.pin (a, oe) (List.mem_append.mpr (.inl List.mem_cons_self))
  obtain ⟨vs, hv⟩ := hf
  obtain ⟨oc, od, oda, osl⟩ := oe
  obtain ⟨h1, h2⟩ := hz
  dsimp only at h1 h2 hv
  subst h1 h2 hv
  cases od with
  | none => exact ⟨none, hget, rfl, rfl, trivial⟩
  | some dd =>
    obtain ⟨fs, hdd⟩ := hd dd rfl
    obtain ⟨mA, hns, hr⟩ := (show ObjOk X.prog X.w H s.heap dd (.xd fs) from I.hok dd _ hdd)
    obtain ⟨od, ho, hl⟩ := lookIn_ns hns
    exact ⟨some od, hget, rfl, rfl, ho⟩
theorem call_isX (hz : Zc cls d oe) (hf : ∃ vs, oe.data = .fields vs) : CallR (X.suite a ((a, oe) :: pn)) (.builtin "isinstance") (fun xs H Q => rIsX X.K a cls xs H Q ∧ ∀ dd, d = some dd → ∃ fs, H dd = some (.xd fs)) := by
  intro pins s σ H xs us Q I r h
  obtain ⟨⟨D, b, hcls, C, h, q⟩, hd⟩ := h
  subst hcls
  obtain ⟨od, J⟩ := exc_inst hz hf I hd
  have Z : PySem.W.KitX X.K (.ref a) (.ref D) (fun h => PySem.W.InstAt h a oe D od) := PySem.W.kitx_exc C.hcl C.hg C.hk C.hs C.ha C.hn C.ht C.hm
  rcases h with ⟨c, cv, rfl, hc, e⟩ | ⟨tp, cs, ws, rfl, hT, hk, e⟩
  · obtain ⟨u1, u2, rfl, r1, r2⟩ := vals2 r
    cases (show u1 = Value.ref a from r1)
    have e2 := hc.eq r2
    subst e2
    exact PySem.W.kia_one Z I.kIn J e (fun z => nomatch z) fun tk => ⟨.bl b, H, I.kept (t' := tk) fun _ _ z => z, rfl, q⟩
  · obtain ⟨u1, u2, rfl, r1, r2⟩ := vals2 r
    cases (show u1 = Value.ref a from r1)
    cases (show u2 = Value.ref tp from r2)
    obtain ⟨_, its, rv, o, h1, h2, n, h3⟩ := (show ObjOk X.prog X.w H s.heap tp (.tup cs) from I.hok tp _ hT)
    have e3 := ClsV.all hk rv
    subst e3
    obtain ⟨oc, od', dt, sl⟩ := o
    simp only at h2 h3
    subst h2 h3
    exact PySem.W.kia_tup Z I.kIn J h1 e (fun z => nomatch z) fun tk => ⟨.bl b, H, I.kept (t' := tk) fun _ _ z => z, rfl, q⟩
theorem XD.at_ {c : Nat} {fs : Option (List D)} {F H : Hp} (h : XD Γ F c fs d) (s : Same F H) : ∀ dd, d = some dd → ∃ fs, H dd = some (.xd fs) := fun dd e => by
  cases fs with
  | none => cases (show d = none from h).symm.trans e
  | some ds => obtain ⟨d', vs, e1, q, _⟩ := h; cases e1.symm.trans e; exact ⟨_, s _ _ q⟩
theorem e_isE {cx : V} {cv : Value} {tab : List (Nat × Bool)} (hz : Zc cls d oe) (hf : ∃ vs, oe.data = .fields vs) (hg : Gl X "isinstance") (hm : X.mg "isinstance" = none) (hv : PE (X.suite a ((a, oe) :: pn)) (.Name x p2) (tVar i)) {e : Expr} (he : PE (X.suite a ((a, oe) :: pn)) e (tC cx)) (hcv : ClsV cx cv)
    (hT : ∀ q ∈ tab, ExO X.K (Γ.cls q.1) ∧ PySem.W.kitOne X.K (.ref (Γ.cls q.1)) cv = some q.2)
    (hs : starEach [.Name x p2, e] X.env = (false, eval (.Name x p2) X.env) :: starEach [e] X.env := by rfl) (hpl : (backTo pos (starEach [e] X.env)).any (·.1) = false := by rfl) (hs2 : starEach [e] X.env = (false, eval e X.env) :: starEach [] X.env := by rfl) :
    PE (X.suite a ((a, oe) :: pn)) (.Call (.Name "isinstance" p1) [.Name x p2, e] [] pos) (tE (Γ.at (some (a, cls, d))) W (dIsE tab i)) :=
  PE.w (pe_callB (X := X.suite a ((a, oe) :: pn)) (call_isX hz hf) hg hm (by decide +kernel) (pa_cons hv (pa_cons he pa_nil hs2) hs) (by decide) (by decide) hs hpl) fun σ H Q ⟨G, env, F, er, h⟩ => by
  unfold dIsE at h
  split at h
  · rename_i c fs h0
    obtain ⟨y, hy, a', d', e1, e2, xd⟩ := er.sl i _ h0
    cases e1
    have e2 : some (a, cls, d) = some (a', Value.ref (Γ.cls c), d') := e2
    cases e2
    cases z : tab.lookup c with
    | none => rw [z] at h; exact h.elim
    | some b =>
      rw [z] at h
      obtain ⟨T1, T2⟩ := hT _ (lookup_mem z)
      refine ⟨.ref a, hy, ⟨Γ.cls c, b, rfl, T1, .inl ⟨cx, cv, rfl, hcv, T2⟩, ?_⟩, xd.at_ er.fh⟩
      exact h.ok er _ rep_bl
  · exact h.elim
theorem e_isEt {cs : List V} {us : List Value} {es : List Expr} {pt : Pos} {k1 : Nat} {tab : List (Nat × Bool)} (hz : Zc cls d oe) (hf : ∃ vs, oe.data = .fields vs) (hg : Gl X "isinstance") (hm : X.mg "isinstance" = none) (hv : PE (X.suite a ((a, oe) :: pn)) (.Name x p2) (tVar i))
    (he : PA (X.suite a ((a, oe) :: pn)) es (fun σ H Q => Q cs H)) (hcv : Paired ClsV cs us) (hl : cs.length ≤ sizeLine)
    (hT : ∀ q ∈ tab, ExO X.K (Γ.cls q.1) ∧ PySem.W.kitAny X.K (.ref (Γ.cls q.1)) us = some q.2)
    (hs : starEach [.Name x p2, .Tuple es k1 pt] X.env = (false, eval (.Name x p2) X.env) :: starEach [.Tuple es k1 pt] X.env := by rfl) (hpl : (backTo pos (starEach [.Tuple es k1 pt] X.env)).any (·.1) = false := by rfl) (hs2 : starEach [.Tuple es k1 pt] X.env = (false, eval (.Tuple es k1 pt) X.env) :: starEach [] X.env := by rfl) :
    PE (X.suite a ((a, oe) :: pn)) (.Call (.Name "isinstance" p1) [.Name x p2, .Tuple es k1 pt] [] pos) (tE (Γ.at (some (a, cls, d))) W (dIsE tab i)) :=
  PE.w (pe_callB (X := X.suite a ((a, oe) :: pn)) (call_isX hz hf) hg hm (by decide +kernel) (pa_cons hv (pa_cons (pe_tup he) pa_nil hs2) hs) (by decide) (by decide) hs hpl) fun σ H Q ⟨G, env, F, er, h⟩ => by
  unfold dIsE at h
  split at h
  · rename_i c fs h0
    obtain ⟨y, hy, a', d', e1, e2, xd⟩ := er.sl i _ h0
    cases e1
    have e2 : some (a, cls, d) = some (a', Value.ref (Γ.cls c), d') := e2
    cases e2
    cases z : tab.lookup c with
    | none => rw [z] at h; exact h.elim
    | some b =>
      rw [z] at h
      obtain ⟨T1, T2⟩ := hT _ (lookup_mem z)
      refine ⟨.ref a, hy, hl, fun tp htp => ⟨⟨Γ.cls c, b, rfl, T1, .inr ⟨tp, cs, us, rfl, upd_same, hcv, T2⟩, ?_⟩, fun dd hdd => ?_⟩⟩
      · have ft : F tp = none := by
          cases z : F tp with
          | none => rfl
          | some o => have := er.fh tp o z; rw [htp] at this; cases this
        exact h F _ ⟨Same.refl _, fun b o q => by rw [upd_ne (ne_of_none q ft)]; exact er.fh b o q, fun b o q => by rw [upd_ne (ne_of_none q htp)]; exact q, fun b o q => .inl q⟩ _ rep_bl
      · obtain ⟨fs', q⟩ := xd.at_ er.fh dd hdd
        exact ⟨fs', by rw [upd_ne (ne_of_none q htp)]; exact q⟩
  · exact h.elim
/-- e.f -/
def dXf (tab : List (Nat × Nat)) (i : Nat) : Env → Res D := fun env => match env[i]? with
  | some (.exn c (some ds)) => op? ((tab.lookup c).bind fun j => ds[j]?)
  | _ => .err
structure XfO (K : PySem.W.Frag) (Γ : Gm) (c : Nat) (f : Str) (j : Nat) : Prop where
  xf : XfC K (Γ.cls c)
  no : PySem.W.findIn K (.ref (Γ.cls c)) f = some none
  ix : fIx (Γ.flds c) f = some j
theorem e_xf {f : Str} {tab : List (Nat × Nat)} (hz : Zc cls d oe) (hf : ∃ vs, oe.data = .fields vs) (hv : PE (X.suite a ((a, oe) :: pn)) (.Name x p2) (tVar i)) (hT : ∀ q ∈ tab, XfO X.K Γ q.1 f q.2)
    (hb : attributeBase (.Name x p2) f X.env (eval (.Name x p2) X.env) = eval (.Name x p2) X.env := by rfl) :
    PE (X.suite a ((a, oe) :: pn)) (.Attribute (.Name x p2) f pos) (tE (Γ.at (some (a, cls, d))) W (dXf tab i)) := PE.u fun σ H Q ⟨G, env, F, er, h⟩ => by
  unfold dXf at h
  split at h
  · rename_i c ds h0
    obtain ⟨y, hy, a', d', e1, e2, xd⟩ := er.sl i _ h0
    cases e1
    have e2 : some (a, cls, d) = some (a', Value.ref (Γ.cls c), d') := e2
    cases e2
    cases z : tab.lookup c with
    | none => rw [z] at h; exact h.elim
    | some j =>
      rw [z] at h
      simp only [Option.bind_some] at h
      cases z2 : ds[j]? with
      | none => rw [z2] at h; exact h.elim
      | some dd =>
        rw [z2] at h
        have T := hT _ (lookup_mem z)
        refine ⟨_, pe_xf T.xf T.no hz hf hv hb, .ref a, hy, rfl, rfl, ?_⟩
        obtain ⟨d2, vs, e3, q, l, r⟩ := xd
        obtain ⟨v, jv, rv⟩ := r.get z2
        have hj : j < (Γ.flds c).length := (List.getElem?_eq_some_iff.mp (fIx_lt T.ix)).1
        obtain ⟨u, lu, ju⟩ := fIx_lookup (fs := vs) (k := (Γ.flds c).length) (by rw [List.take_length]; exact l) T.ix hj
        rw [jv] at ju; cases ju
        exact ⟨d2, vs, v, e3, er.fh _ _ q, lu, h.ok er v rv⟩
  · exact h.elim
end
end Dn

/-! Den17.lean -/
namespace Dn
open PySem PySem.Spec PyProof.Rows L2

section
variable {X : Cx} {Γ : Gm} {W : WX} {p pos : Pos} {e : Expr} {es : List Expr} {dl : Env → Res (List D)} {x : Str}
/-- list(..): a new list -/
def bList : List D → Option D
  | [.lst ds] => some (.lst ds)
  | [.tup ds] => some (.lst ds)
  | [.scr ns] => some (.lst (ns.map D.int))
  | _ => none
theorem can_list : CaN Γ (fun xs H Q => ∃ p ys, xs = [.ref p] ∧ (SqL Γ.K H p ys ∨ SqT Γ.K H p ys) ∧ ∀ l, H l = none → Q (.ref l) (upd H l (.lst ys))) bList := fun {F H ds vs Q d} s rv e k => by
  have fin : ∀ {ys : List V} {zs : List D}, Reps Γ F zs ys → zs.length ≤ sizeLine → d = .lst zs → ∀ l, H l = none → Q (.ref l) (upd H l (.lst ys)) := fun {ys zs} rr hz hd l hl => by
    have fl : F l = none := by
      cases z : F l with
      | none => rfl
      | some o => have := s l o z; rw [hl] at this; cases this
    refine k l F _ ⟨Same.refl _, fun b o q => by rw [upd_ne (ne_of_none q fl)]; exact s b o q, fun b o q => by rw [upd_ne (ne_of_none q hl)]; exact q, fun b o q => .inl q⟩ fl hl ?_
    subst hd
    exact ⟨ys, upd_same, hz, rr⟩
  unfold bList at e
  split at e
  · rename_i ds; cases e
    obtain ⟨v, rfl, r⟩ := one_pair rv
    obtain ⟨a, ws, rfl, q, l, rr⟩ := r.lst s
    exact ⟨a, ws, rfl, .inl (SqL.of q), fin rr l rfl⟩
  · rename_i ds; cases e
    obtain ⟨v, rfl, r⟩ := one_pair rv
    obtain ⟨a, ws, rfl, q, l, rr⟩ := r.tup s
    exact ⟨a, ws, rfl, .inr q, fin rr l rfl⟩
  · rename_i ns; cases e
    obtain ⟨v, rfl, r⟩ := one_pair rv
    obtain ⟨a, rfl, l, q⟩ := r.scr s
    exact ⟨a, _, rfl, .inl q, fin reps_ints (by simpa using l) rfl⟩
  · cases e
theorem n_list (hk : Γ.K = X.K) (hg : Gl X "list") (hm : X.mg "list" = none) (ha : PA X (e :: es) (tAW Γ W dl)) (he : starEach (e :: es) X.env = (false, eval e X.env) :: starEach es X.env := by rfl) (hpl : (backTo pos (starEach es X.env)).any (·.1) = false := by rfl) :
    PE X (.Call (.Name "list" p) (e :: es) [] pos) (tN Γ W (dBi bList dl)) := n_bty (r := fun xs H Q => ∃ p ys, xs = [.ref p] ∧ (SqL Γ.K H p ys ∨ SqT Γ.K H p ys) ∧ ∀ l, H l = none → Q (.ref l) (upd H l (.lst ys))) (by rw [hk]; exact call_list_of) can_list hg hm (by decide +kernel) ha (by decide) (by decide) he hpl
theorem flat_list : ∀ env d, dBi bList dl env = .ok d → flat d = true := fun env d h => by
  unfold dBi at h
  cases z : dl env with
  | err => rw [z] at h; cases h
  | exc c fs => rw [z] at h; cases h
  | ok ds =>
    rw [z] at h
    simp only [Res.bind_ok] at h
    cases z2 : bList ds with
    | none => rw [z2] at h; cases h
    | some d' =>
      rw [z2] at h; cases h
      unfold bList at z2
      split at z2 <;> cases z2 <;> rfl
/-- int(..) of a truth or a number -/
def bInt : List D → Option D
  | [.int i] => some (.int i)
  | [.bl b] => some (.int (if b then 1 else 0))
  | _ => none
theorem cas_int : CaS Γ (fun xs H Q => (∃ i, xs = [V.int i] ∧ Q (.int i) H) ∨ ∃ k, xs = [.bl k] ∧ Q (.int (if k then 1 else 0)) H) bInt := fun {F H ds vs Q d} s rv e k => by
  unfold bInt at e
  split at e
  · rename_i i; cases e
    obtain ⟨v, rfl, r⟩ := one_pair rv
    exact .inl ⟨i, by rw [r.int], k _ F H (Gr.refl s) rep_int⟩
  · rename_i b; cases e
    obtain ⟨v, rfl, r⟩ := one_pair rv
    exact .inr ⟨b, by rw [r.bl], k _ F H (Gr.refl s) rep_int⟩
  · cases e
theorem e_int1 (hg : Gl X "int") (hm : X.mg "int" = none) (ha : PA X (e :: es) (tAW Γ W dl)) (he : starEach (e :: es) X.env = (false, eval e X.env) :: starEach es X.env := by rfl) (hpl : (backTo pos (starEach es X.env)).any (·.1) = false := by rfl) :
    PE X (.Call (.Name "int" p) (e :: es) [] pos) (tE Γ W (dBi bInt dl)) := e_bty call_int1 cas_int hg hm (by decide +kernel) ha (by decide) (by decide) he hpl
end

/-! ### a class called with keywords -/
section
variable {X : Cx} {Γ : Gm} {W : WX} {k c nf n N : Nat} {g : Nat → List D → List D → Res (List D)} {x : Str} {p pos kpos : Pos} {e : Expr} {es : List Expr} {kws : List Keyword} {nm : Option Str} {ks : List Str} {dl dk : Env → Res (List D)} {da : Env → Res D} {dr : Env → Res (List D)}
theorem k_nil : PK X [] (tA Γ W dNil) := ⟨fun pos pins s σ H Q I h => pk_nil.run pos pins s σ H Q I (let ⟨G, env, F, er, q⟩ := h; post.ok (W := W) er q [] .nil)⟩
theorem k_cons (ha : PE X e (tE Γ W da)) (hr : PK X kws (tA Γ W dr)) : PK X (⟨nm, e, kpos⟩ :: kws) (tA Γ W (dCons da dr)) := ⟨fun pos pins s σ H Q I h => (pk_cons ha hr).run pos pins s σ H Q I (by
  obtain ⟨G, env, F, er, h⟩ := h
  refine ⟨G, env, F, er, h.bind.imp fun d F1 H1 _ g1 h1 v r1 => ⟨G, env, F1, er.gr g1, h1.bind.imp fun ds F2 H2 _ g2 h2 vs r2 => ?_⟩⟩
  exact h2.ok ((er.gr g1).gr g2) _ (.cons (r1.mono g2.ff) r2))⟩
structure MkK (P : Program) (w : World) (K : PySem.W.Frag) (mg : Str → Option Value) (base : Heap) (Γ : Gm) (k : Nat) (C : Addr) (n : Nat) (ks : List Str) (N : Nat) (g : Nat → List D → List D → Res (List D)) : Prop where
  ex : ∃ f fd ps, Mk K C f ∧ FnOk P w K mg base (L2.CX P w) k f fd ps (spI Γ N g) ∧ KBn K fd ps (n + 1) ks (fun us ws => us ++ ws) (fun vs zs => vs ++ zs)
def dMakeK (c nf n nk N : Nat) (g : Nat → List D → List D → Res (List D)) (dl dk : Env → Res (List D)) : Env → Res D := fun env => (dl env).bind fun ds => (dk env).bind fun zs => if ds.length = n ∧ zs.length = nk ∧ n + nk = N then mkR c nf (g c [] (ds ++ zs)) else .err
theorem e_makeK (hF : MkK X.prog X.w X.K X.mg X.base Γ k (Γ.cls c) n ks N g) (hnf : (Γ.flds c).length = nf) (hr : Room (k + 1) X.A) (tk : Takes X W) (hg : Gl X x) (hm : X.mg x = some (.ref (Γ.cls c)))
    (ha : PA X (e :: es) (tA Γ W dl)) (hkw : PK X kws (tA Γ W dk)) (hall : (backToKw pos (keywordEach kws X.env)).all (·.1.isSome) = true := by rfl) (hks : (backToKw pos (keywordEach kws X.env)).filterMap (·.1) = ks := by rfl)
    (hdb : (x == ("__debug__" : Str)) = false := by decide) (he : starEach (e :: es) X.env = (false, eval e X.env) :: starEach es X.env := by rfl)
    (hpl : ((backTo pos (starEach (e :: es) X.env)).any (·.1) || (backToKw pos (keywordEach kws X.env)).any (·.1.isNone)) = false := by rfl) :
    PE X (.Call (.Name x p) (e :: es) kws pos) (tE Γ W (dMakeK c nf n ks.length N g dl dk)) := by
  obtain ⟨f, fd, ps, M, F1, hb⟩ := hF.ex
  refine ⟨fun pins s σ H Q I ⟨G, env, F, er, h⟩ => ?_⟩
  refine wpAny_Call_Name_kw (ld_glob I hg hm ?_ hdb)
  have hh := ha.run pos pins s σ H (fun vs H1 => ∃ F1 ds, ER Γ G env σ F1 H1 ∧ Reps Γ F1 ds vs ∧ post Γ W σ F1 H1 ((dk env).bind fun zs => if ds.length = n ∧ zs.length = ks.length ∧ n + ks.length = N then mkR c nf (g c [] (ds ++ zs)) else .err) (kE Γ Q)) I ⟨G, env, F, er, h.bind.imp fun ds F1 H1 _ g1 h1 vs r => ⟨F1, ds, er.gr g1, r, h1⟩⟩
  refine PySem.W.callWith_KW (h₀ := X.base) I.ok.mod.kin M.kp hall (thn hh fun us s1 ⟨vs, H1, I1, r, F2, ds, er1, rd, q⟩ => ?_) hpl he
  have hh2 := hkw.run pos pins s1 σ H1 (fun zv H2 => ∃ F3 zs, ER Γ G env σ F3 H2 ∧ Reps Γ F3 ds vs ∧ Reps Γ F3 zs zv ∧ post Γ W σ F3 H2 (if ds.length = n ∧ zs.length = ks.length ∧ n + ks.length = N then mkR c nf (g c [] (ds ++ zs)) else .err) (kE Γ Q)) I1 ⟨G, env, F2, er1, q.bind.imp fun zs F3 H2 _ g2 h2 zv rz => ⟨F3, zs, er1.gr g2, rd.mono g2.ff, rz, h2⟩⟩
  refine thn hh2 fun ws s2 ⟨zv, H2, I2, rz, F3, zs, er2, rd2, rzd, q2⟩ => ⟨I2.kIn, ?_⟩
  rw [hks]
  split at q2
  · rename_i hn
    obtain ⟨l1, l2, l3⟩ := hn
    have e1 : vs.length = n := rd2.length.trans l1
    have e2 : zv.length = ks.length := rzd.length.trans l2
    have hq := mk_sp (W := W) (σ := σ) (Q := Q) (dfl := []) (dvs := []) (n := N) (g := g) (by simp; omega) er2.fh (rd2.append rzd) (fun _ => .nil) (I2.hok.fresh (Nat.le_succ s2.heap.objs.size)) (I2.hok.fresh (Nat.le_refl s2.heap.objs.size)) (Nat.ne_of_lt (Nat.lt_succ_self _)) hnf (by simpa using q2) rfl
    simp only [List.append_nil] at hq
    have I3 := Inv.made (C := Γ.cls c) I2
    have r1 : Vals (V.ref (s2.heap.objs.size + 1) :: vs) (Value.ref (s2.heap.objs.size + 1) :: us) := .cons rfl r
    have r2 := hb.rel r1 rz
    have e3 : (Value.ref (s2.heap.objs.size + 1) :: us).length = n + 1 := r1.length.symm.trans (congrArg Nat.succ e1)
    have e4 : ws.length = ks.length := rz.length.symm.trans e2
    refine wpAny_call (make_map (f := f) I2.kIn M.makes M.init (beq_iff_eq.mp M.fn) (codeAny_mono (F1.run _ X.stack _ _ ⟨Value.ref (s2.heap.objs.size + 1) :: us, ks.zip ws⟩ ((Value.ref (s2.heap.objs.size + 1) :: us) ++ ws) _ _ _ (hr.make (Γ.cls c) us (ks.zip ws))
      (I3.env0.make (Γ.cls c) us (ks.zip ws)) (hb.to _ (Value.ref (s2.heap.objs.size + 1) :: us) ws I3.kIn e3 e4) r2 hq) fun r s' hq' => ?_))
    cases r with
    | error e => exact passAt tk σ pins _ _ e s' I3 hq'
    | ok fl =>
      cases fl with
      | ret u =>
        obtain ⟨v, H', I4, rv, ev, q3⟩ := I3.after hq'
        subst ev
        exact ⟨rv, ⟨V.ref (s2.heap.objs.size + 1), H', I4, rfl, q3⟩⟩
      | next => exact False.elim hq'
      | brk => exact False.elim hq'
      | cont => exact False.elim hq'
  · exact q2.elim
end
theorem passes0 {P : Program} {w : World} {X : Cx} : Passes (L2.CX P w) X (fun _ _ _ => False) := fun _ _ _ _ _ _ _ ⟨_, _, _, _, _, _, _, _, _, _, _, _, z⟩ => z.elim
end Dn

/-! Ev.lean -/
/-! How denotations are reckoned: applied forms for simp. -/
namespace Dn
open PySem L2

def Out.seq (o : Out) (b : Env → Out) : Out := match o with
  | .nx e => b e
  | o => o
@[simp] theorem Out.seq_nx (e : Env) (b : Env → Out) : (Out.nx e).seq b = b e := rfl
@[simp] theorem Out.seq_ret (d : D) (b : Env → Out) : (Out.ret d).seq b = .ret d := rfl
@[simp] theorem Out.seq_bk (e : Env) (b : Env → Out) : (Out.bk e).seq b = .bk e := rfl
@[simp] theorem Out.seq_ct (e : Env) (b : Env → Out) : (Out.ct e).seq b = .ct e := rfl
@[simp] theorem Out.seq_exc (e : Env) (c fs) (b : Env → Out) : (Out.exc e c fs).seq b = .exc e c fs := rfl
@[simp] theorem Out.seq_err (b : Env → Out) : (Out.err).seq b = .err := rfl
theorem Out.seq_ite {p : Prop} [Decidable p] (x y : Out) (b : Env → Out) : (if p then x else y).seq b = if p then x.seq b else y.seq b := by split <;> rfl
def Res.out {α : Type} (r : Res α) (env : Env) (f : α → Out) : Out := match r with
  | .ok d => f d
  | .exc c fs => .exc env c fs
  | .err => .err
@[simp] theorem Res.out_ok {α : Type} (a : α) (env : Env) (f : α → Out) : (Res.ok a).out env f = f a := rfl
@[simp] theorem Res.out_exc {α : Type} (c fs) (env : Env) (f : α → Out) : (Res.exc c fs).out env f = .exc env c fs := rfl
@[simp] theorem Res.out_err {α : Type} (env : Env) (f : α → Out) : (Res.err).out env f = .err := rfl
def ifB {α : Type} (k : Bool) (a b : Env → α) (env : Env) : α := match k with
  | true => a env
  | false => b env
@[simp] theorem ifB_t {α : Type} (a b : Env → α) (env : Env) : ifB true a b env = a env := rfl
@[simp] theorem ifB_f {α : Type} (a b : Env → α) (env : Env) : ifB false a b env = b env := rfl
@[simp] theorem dSkip_ap (env : Env) : dSkip env = .nx env := rfl
@[simp] theorem dSeq_ap (a b : Env → Out) (env : Env) : dSeq a b env = (a env).seq b := by
  unfold dSeq; cases a env <;> rfl
@[simp] theorem dSet_ap (i : Nat) (den : Env → Res D) (env : Env) : dSet i den env = (den env).out env fun d => .nx (env.set i (.val d)) := by
  unfold dSet; cases den env <;> rfl
@[simp] theorem dOwn_ap (i : Nat) (den : Env → Res D) (env : Env) : dOwn i den env = (den env).out env fun d => .nx (env.set i (.own d)) := by
  unfold dOwn; cases den env <;> rfl
@[simp] theorem dRet_ap (den : Env → Res D) (env : Env) : dRet den env = (den env).out env Out.ret := by
  unfold dRet; cases den env <;> rfl
@[simp] theorem dDo_ap (den : Env → Res D) (env : Env) : dDo den env = (den env).out env fun _ => .nx env := by
  unfold dDo; cases den env <;> rfl
@[simp] theorem dIf_ap (t : Env → Res Bool) (a b : Env → Out) (env : Env) : dIf t a b env = (t env).out env fun k => ifB k a b env := by
  unfold dIf
  cases t env with
  | ok k => cases k <;> rfl
  | exc c fs => rfl
  | err => rfl
@[simp] theorem dPre_ap (g : Env → Env) (s : Env → Out) (env : Env) : dPre g s env = s (g env) := rfl
@[simp] theorem dAsg_ap (t : Tg) (den : Env → Res D) (env : Env) : dAsg t den env = (den env).out env fun d => match t.f d env with | some e => .nx e | none => .err := by
  unfold dAsg; cases den env <;> rfl
@[simp] theorem dPar_ap (i j : Nat) (dl : Env → Res (List D)) (env : Env) : dPar i j dl env = (dl env).out env fun ds => match ds with | [a, b] => .nx ((env.set i (.val a)).set j (.val b)) | _ => .err := by
  unfold dPar; cases dl env <;> rfl
@[simp] theorem dFor_ap (it : Env → Res (List D)) (tgt : Tg) (body : Env → Out) (kl : Env → Env) (env : Env) : dFor it tgt body kl env = (it env).out env fun ds => dLoop tgt.f body kl ds (kl env) := by
  unfold dFor; cases it env <;> rfl
@[simp] theorem kills_nil (env : Env) : kills [] env = env := rfl
@[simp] theorem kills_cons (i : Nat) (is : List Nat) (env : Env) : kills (i :: is) env = kills is (env.set i .un) := rfl
def frzS : Option Slot → Option Slot
  | some (.own d) => if flat d = true then some (.val d) else none
  | _ => none
@[simp] theorem frzs_nil (env : Env) : frzs [] env = env := rfl
@[simp] theorem frzs_cons (i : Nat) (is : List Nat) (env : Env) : frzs (i :: is) env = frzs is (frz i env) := rfl
@[simp] theorem frz_own (i : Nat) (env : Env) (ds : List D) (h : env[i]? = some (.own (.lst ds))) : frz i env = env.set i (.val (.lst ds)) := by
  unfold frz; rw [h]; rfl
@[simp] theorem dVar_ap (i : Nat) (env : Env) : dVar i env = match env[i]? with | some (.val d) => .ok d | _ => .err := rfl
@[simp] theorem dPeek_ap (i : Nat) (env : Env) : dPeek i env = match env[i]? with | some (.val d) => .ok d | some (.own d) => .ok d | _ => .err := rfl
@[simp] theorem dC_ap (d : D) (env : Env) : dC d env = .ok d := rfl
@[simp] theorem dNil_ap (env : Env) : dNil env = .ok [] := rfl
@[simp] theorem dCons_ap (a : Env → Res D) (r : Env → Res (List D)) (env : Env) : dCons a r env = (a env).bind fun d => (r env).bind fun ds => .ok (d :: ds) := rfl
@[simp] theorem dBin_ap (f : D → D → Option D) (a b : Env → Res D) (env : Env) : dBin f a b env = (a env).bind fun x => (b env).bind fun y => op? (f x y) := rfl
@[simp] theorem dUn_ap (f : D → Option D) (a : Env → Res D) (env : Env) : dUn f a env = (a env).bind fun x => op? (f x) := rfl
@[simp] theorem dBi_ap (f : List D → Option D) (a : Env → Res (List D)) (env : Env) : dBi f a env = (a env).bind fun x => op? (f x) := rfl
@[simp] theorem dT_ap (a : Env → Res D) (env : Env) : dT a env = (a env).bind asB := rfl
@[simp] theorem asB_bl (k : Bool) : asB (.bl k) = .ok k := rfl
@[simp] theorem dTru_ap (a : Env → Res D) (env : Env) : dTru a env = (a env).bind fun d => op? (tru d) := rfl
@[simp] theorem tru_bl (k : Bool) : tru (.bl k) = some k := rfl
@[simp] theorem tru_int (i : Int) : tru (.int i) = some (i != 0) := rfl
@[simp] theorem tru_non : tru .non = some false := rfl
@[simp] theorem dAnd_ap (a b : Env → Res Bool) (env : Env) : dAnd a b env = (a env).bind fun k => ifB k b (fun _ => .ok false) env := by
  unfold dAnd; cases a env with
  | ok k => cases k <;> rfl
  | exc c fs => rfl
  | err => rfl
@[simp] theorem dOr_ap (a b : Env → Res Bool) (env : Env) : dOr a b env = (a env).bind fun k => ifB k (fun _ => .ok true) b env := by
  unfold dOr; cases a env with
  | ok k => cases k <;> rfl
  | exc c fs => rfl
  | err => rfl
@[simp] theorem dNot_ap (a : Env → Res Bool) (env : Env) : dNot a env = (a env).bind fun k => .ok (!k) := rfl
def asBV (b : Env → Res D) (env : Env) (isand : Bool) : D → Res D
  | .bl true => if isand then b env else .ok (.bl true)
  | .bl false => if isand then .ok (.bl false) else b env
  | _ => .err
@[simp] theorem dAndV_ap (a b : Env → Res D) (env : Env) : dAndV a b env = (a env).bind fun x => match x with | .bl k => ifB k b (fun _ => .ok (.bl false)) env | _ => .err := by
  unfold dAndV; cases a env with
  | ok k => cases k <;> first | rfl | (rename_i k; cases k <;> rfl)
  | exc c fs => rfl
  | err => rfl
@[simp] theorem dOrV_ap (a b : Env → Res D) (env : Env) : dOrV a b env = (a env).bind fun x => match x with | .bl k => ifB k (fun _ => .ok (.bl true)) b env | _ => .err := by
  unfold dOrV; cases a env with
  | ok k => cases k <;> first | rfl | (rename_i k; cases k <;> rfl)
  | exc c fs => rfl
  | err => rfl
@[simp] theorem dNotV_ap (a : Env → Res D) (env : Env) : dNotV a env = (a env).bind fun x => match x with | .bl k => .ok (.bl (!k)) | _ => .err := rfl
@[simp] theorem dIfE_ap (t : Env → Res Bool) (a b : Env → Res D) (env : Env) : dIfE t a b env = (t env).bind fun k => ifB k a b env := by
  unfold dIfE; cases t env with
  | ok k => cases k <;> rfl
  | exc c fs => rfl
  | err => rfl
@[simp] theorem dLst_ap (l : Env → Res (List D)) (env : Env) : dLst l env = (l env).bind fun ds => if ds.length ≤ 16777216 then .ok (.lst ds) else .err := by unfold dLst; rw [sizeLine_eq]
@[simp] theorem dTup_ap (l : Env → Res (List D)) (env : Env) : dTup l env = (l env).bind fun ds => if ds.length ≤ 16777216 then .ok (.tup ds) else .err := by unfold dTup; rw [sizeLine_eq]
@[simp] theorem dPart_ap (a : Env → Res D) (env : Env) : dPart a env = (a env).bind fun d => match d with | .int i => .ok (some i) | _ => .err := rfl
@[simp] theorem dNoP_ap (env : Env) : dNoP env = .ok none := rfl
@[simp] theorem dSlice_ap (f : D → Option Int → Option Int → Option D) (a : Env → Res D) (l h : Env → Res (Option Int)) (env : Env) : dSlice f a l h env = (a env).bind fun x => (l env).bind fun lo => (h env).bind fun hi => op? (f x lo hi) := rfl
@[simp] theorem dCall_ap (n : Nat) (dfl : List D) (g : List D → Res D) (dl : Env → Res (List D)) (env : Env) : dCall n dfl g dl env = (dl env).bind fun ds => if ds.length + dfl.length = n then g (ds ++ dfl) else .err := rfl
@[simp] theorem dItL_lst (a : Env → Res D) (env : Env) : dItL a env = (a env).bind fun d => match d with | .lst ds => .ok ds | .scr ns => .ok (ns.map D.int) | _ => .err := rfl
@[simp] theorem dItT_ap (a : Env → Res D) (env : Env) : dItT a env = (a env).bind fun d => match d with | .tup ds => .ok ds | _ => .err := rfl
@[simp] theorem dItS_ap (a : Env → Res D) (env : Env) : dItS a env = (a env).bind fun d => match d with | .str z => .ok (signsD z) | _ => .err := rfl
@[simp] theorem dRng1_ap (a : Env → Res (List D)) (env : Env) : dRng1 a env = (a env).bind fun ds => match ds with | [.int j] => if j ≤ 1000000 ∧ -1000000000 ≤ j then .ok (rngD 0 j.toNat) else .err | _ => .err := rfl
@[simp] theorem dComp_ap (it : Env → Res (List D)) (tgt : Tg) (tst : Env → Res Bool) (elt : Env → Res D) (vs : List Nat) (env : Env) : dComp it tgt tst elt vs env = (it env).bind fun ds => match dCompL tgt.f tst elt (kills vs env) ds with | .ok xs => .ok (.lst xs) | _ => .err := rfl
@[simp] theorem dYes_ap (env : Env) : dYes env = .ok true := rfl
@[simp] theorem tgName_f (i : Nat) (d : D) (env : Env) : (tgName i).f d env = some (env.set i (.val d)) := rfl
@[simp] theorem tgTup_f (n : Nat) (r : List D → Env → Option Env) (sl : List Nat) (d : D) (env : Env) : (tgTup n r sl).f d env = match d with | .tup ds => if ds.length = n then r ds env else none | _ => none := rfl
@[simp] theorem tgsNil_ap (ds : List D) (env : Env) : tgsNil ds env = match ds with | [] => some env | _ => none := rfl
@[simp] theorem tgsCons_ap (t : Tg) (r : List D → Env → Option Env) (d : D) (ds : List D) (env : Env) : tgsCons t r (d :: ds) env = (t.f d env).bind fun e => r ds e := rfl
@[simp] theorem dLoop_nil (tgt : D → Env → Option Env) (body : Env → Out) (kl : Env → Env) (e : Env) : dLoop tgt body kl [] e = .nx e := rfl
@[simp] theorem dMut_ap (i : Nat) (f : List D → List D → Option (List D)) (dl : Env → Res (List D)) (env : Env) : dMut i f dl env = match env[i]? with
  | some (.own (.lst ds)) => (dl env).out env fun as => match f ds as with
    | some ds' => .nx (env.set i (.own (.lst ds')))
    | none => .err
  | _ => .err := by
  unfold dMut
  cases env[i]? with
  | none => rfl
  | some s => cases s with
    | un => rfl
    | val d => rfl
    | exn c fs => rfl
    | own d => cases d <;> first | rfl | (cases dl env <;> rfl)
@[simp] theorem outR_nx (e : Env) : outR (.nx e) = .ok .non := rfl
@[simp] theorem outR_ret (d : D) : outR (.ret d) = .ok d := rfl
@[simp] theorem outR_exc (e : Env) (c fs) : outR (.exc e c fs) = .exc c fs := rfl
/-! values -/
@[simp] theorem dAdd_int (i j : Int) : dAdd (.int i) (.int j) = some (.int (i + j)) := rfl
@[simp] theorem dSub_int (i j : Int) : dSub (.int i) (.int j) = some (.int (i - j)) := rfl
@[simp] theorem dMod_int (i j : Int) (h : 0 < j) : dMod (.int i) (.int j) = some (.int (i % j)) := by simp [dMod, dII, cMod, h]
theorem log_small {j : Nat} (h : j ≤ 1000000000000000000000000) : j.log2 < 9000 := by
  exact PySem.Flt.log2_lt_of (k := 9000) (by decide) (Nat.lt_of_le_of_lt h (Nat.lt_of_lt_of_le (by decide : 1000000000000000000000000 < 2 ^ 80) (Nat.pow_le_pow_right (by decide) (by decide))))
@[simp] theorem dFdiv_int (i j : Int) (h : 0 < j) (h2 : j ≤ 1000000000000000000000000) : dFdiv (.int i) (.int j) = some (.int (i / j)) := by
  have : j.natAbs.log2 < 9000 := log_small (by omega)
  simp [dFdiv, dII, cDiv, h, this]
@[simp] theorem dEq_int (i j : Int) : dEq (.int i) (.int j) = some (.bl (i == j)) := by simp [dEq, dEqB, D.py, PyData.depth, PyData.eqv]
@[simp] theorem dEq_str (i j : Str) : dEq (.str i) (.str j) = some (.bl (i == j)) := by simp [dEq, dEqB, D.py, PyData.depth, PyData.eqv]
@[simp] theorem dEq_bl (i j : Bool) : dEq (.bl i) (.bl j) = some (.bl (i == j)) := by simp [dEq, dEqB, D.py, PyData.depth, PyData.eqv]
@[simp] theorem dNe_int (i j : Int) : dNe (.int i) (.int j) = some (.bl (!(i == j))) := by simp [dNe, dEqB, D.py, PyData.depth, PyData.eqv]
@[simp] theorem dNe_str (i j : Str) : dNe (.str i) (.str j) = some (.bl (!(i == j))) := by simp [dNe, dEqB, D.py, PyData.depth, PyData.eqv]
@[simp] theorem dNe_bl (i j : Bool) : dNe (.bl i) (.bl j) = some (.bl (!(i == j))) := by simp [dNe, dEqB, D.py, PyData.depth, PyData.eqv]
@[simp] theorem dLt_int (i j : Int) : dLt (.int i) (.int j) = some (.bl (decide (i < j))) := rfl
@[simp] theorem dLe_int (i j : Int) : dLe (.int i) (.int j) = some (.bl (decide (i ≤ j))) := rfl
@[simp] theorem dGt_int (i j : Int) : dGt (.int i) (.int j) = some (.bl (decide (j < i))) := rfl
@[simp] theorem dGe_int (i j : Int) : dGe (.int i) (.int j) = some (.bl (decide (j ≤ i))) := rfl
@[simp] theorem dIs_bl (x : D) (k : Bool) : dIs x (.bl k) = some (.bl (x.isBl k)) := by cases x <;> rfl
@[simp] theorem dIs_non (x : D) : dIs x .non = some (.bl x.isNon) := by cases x <;> rfl
@[simp] theorem dIsNot_bl (x : D) (k : Bool) : dIsNot x (.bl k) = some (.bl (!x.isBl k)) := by cases x <;> rfl
@[simp] theorem dIsNot_non (x : D) : dIsNot x .non = some (.bl (!x.isNon)) := by cases x <;> rfl
@[simp] theorem isBl_bl (j k : Bool) : D.isBl k (.bl j) = (j == k) := rfl
@[simp] theorem bLen_str (z : Str) : bLen [.str z] = some (.int z.length) := rfl
@[simp] theorem bLen_lst (z : List D) : bLen [.lst z] = some (.int z.length) := rfl
@[simp] theorem bLen_tup (z : List D) : bLen [.tup z] = some (.int z.length) := rfl
@[simp] theorem bLen_scr (z : List Int) : bLen [.scr z] = some (.int z.length) := rfl
@[simp] theorem dIxV_lst (ds : List D) (i : Int) : dIxV (.lst ds) (.int i) = atI ds i := rfl
@[simp] theorem dIxV_tup (ds : List D) (i : Int) : dIxV (.tup ds) (.int i) = atI ds i := rfl
@[simp] theorem dIxV_scr (ns : List Int) (i : Int) : dIxV (.scr ns) (.int i) = (atI ns i).map D.int := rfl
@[simp] theorem dIxV_str (s : Str) (i : Int) : dIxV (.str s) (.int i) = (atI s.cps.toList i).map fun c => .str ⟨#[c]⟩ := rfl
theorem atI_get_nn {α : Type} {xs : List α} {i : Int} (h0 : 0 ≤ i) (h1 : i < xs.length) : atI xs i = xs[i.toNat]? := by
  unfold atI ixN; rw [if_pos h0, if_pos h1]; rfl
theorem atI_mem {α : Type} {xs : List α} {i : Int} (h0 : 0 ≤ i) (h1 : i < xs.length) : ∃ x, x ∈ xs ∧ atI xs i = some x := by
  have h : i.toNat < xs.length := by omega
  exact ⟨xs[i.toNat], List.getElem_mem h, by rw [atI_get_nn h0 h1]; simp [h]⟩
@[simp] theorem atI_0 {α : Type} (x : α) (xs : List α) : atI (x :: xs) 0 = some x := by simp [atI, ixN]
@[simp] theorem atI_1 {α : Type} (x y : α) (xs : List α) : atI (x :: y :: xs) 1 = some y := by
  rw [atI_get_nn (by decide) (by simp; omega)]; rfl
@[simp] theorem atI_2 {α : Type} (x y z : α) (xs : List α) : atI (x :: y :: z :: xs) 2 = some z := by
  rw [atI_get_nn (by decide) (by simp; omega)]; rfl
@[simp] theorem bIsB_ap (b : String) (d : D) : bIsB b d = if b ∈ tyKnown then (tyN d).map fun a => .bl (subB a b) else none := rfl
end Dn

/-! Ev2.lean -/
/-! How denotations of classes and exceptions are reckoned. -/
namespace Dn
open PySem L2
@[simp] theorem mkR_ok (c nf : Nat) (fs : List D) : mkR c nf (.ok fs) = if fs.length = nf then .ok (.obj c fs) else .err := rfl
@[simp] theorem mkR_exc (c nf c' : Nat) (fs) : mkR c nf (.exc c' fs) = .exc c' fs := rfl
@[simp] theorem mkR_err (c nf : Nat) : mkR c nf .err = .err := rfl
@[simp] theorem dMake_ap (c nf n : Nat) (dfl : List D) (g : Nat → List D → List D → Res (List D)) (dl : Env → Res (List D)) (env : Env) : dMake c nf n dfl g dl env = (dl env).bind fun ds => if ds.length + dfl.length = n then mkR c nf (g c [] (ds ++ dfl)) else .err := rfl
@[simp] theorem dMakeK_ap (c nf n nk N : Nat) (g : Nat → List D → List D → Res (List D)) (dl dk : Env → Res (List D)) (env : Env) : dMakeK c nf n nk N g dl dk env = (dl env).bind fun ds => (dk env).bind fun zs => if ds.length = n ∧ zs.length = nk ∧ n + nk = N then mkR c nf (g c [] (ds ++ zs)) else .err := rfl
@[simp] theorem dInit_ap (n N : Nat) (body : Env → Out) (c : Nat) (ds0 ds : List D) : dInit n N body c ds0 ds = outI c (body (envI n N c ds0 ds)) := rfl
@[simp] theorem outI_nx (c c' : Nat) (ds : List D) (r : Env) : outI c (.nx (.own (.obj c' ds) :: r)) = if c' = c then .ok ds else .err := rfl
@[simp] theorem outI_exc (c c' : Nat) (e : Env) (fs) : outI c (.exc e c' fs) = .exc c' fs := rfl
def Out.nxt (o : Option Out) : Out := o.getD .err
@[simp] theorem dFst_ap (tab : List (Nat × Nat)) (i : Nat) (den : Env → Res D) (env : Env) : dFst tab i den env = (den env).out env fun d => match env[i]? with
    | some (.own (.obj c ds)) => match tab.lookup c with
      | some j => if j < ds.length then .nx (env.set i (.own (.obj c (ds.set j d)))) else if j = ds.length then .nx (env.set i (.own (.obj c (ds ++ [d])))) else .err
      | none => .err
    | _ => .err := by
  unfold dFst; cases den env <;> rfl
def Res.outI' (r : Res (List D)) (e0 : Env) (f : List D → Out) : Out := match r with
  | .ok d => f d
  | .exc c fs => .exc e0 c fs
  | .err => .err
@[simp] theorem outI'_ok (d : List D) (e0 : Env) (f : List D → Out) : Res.outI' (.ok d) e0 f = f d := rfl
@[simp] theorem outI'_exc (c fs) (e0 : Env) (f : List D → Out) : Res.outI' (.exc c fs) e0 f = .exc e0 c fs := rfl
@[simp] theorem outI'_err (e0 : Env) (f : List D → Out) : Res.outI' .err e0 f = .err := rfl
@[simp] theorem dSup_ap (i n : Nat) (dfl : List D) (g : Nat → List D → List D → Res (List D)) (dl : Env → Res (List D)) (env : Env) : dSup i n dfl g dl env = match env[i]? with
  | some (.own (.obj c ds0)) => (dl env).out env fun ds => if ds.length + dfl.length = n then (g c ds0 (ds ++ dfl)).outI' (env.set i .un) (fun ds' => .nx (env.set i (.own (.obj c ds')))) else .err
  | _ => .err := by
  unfold dSup
  generalize env[i]? = o
  rcases o with _ | s
  · rfl
  · cases s with
    | un => rfl
    | val d => rfl
    | exn c fs => rfl
    | own d =>
      cases d with
      | obj c ds0 =>
        cases dl env with
        | exc c fs => rfl
        | err => rfl
        | ok ds =>
          simp only [Res.out_ok]
          split
          · cases g c ds0 (ds ++ dfl) <;> rfl
          · rfl
      | _ => rfl
@[simp] theorem dMeth_ap (n : Nat) (dfl : List D) (tab : List (Nat × (List D → Res D))) (da : Env → Res D) (dl : Env → Res (List D)) (env : Env) : dMeth n dfl tab da dl env = (da env).bind fun d => match d with
  | .obj c fs => match tab.lookup c with
    | some g => (dl env).bind fun ds => if (ds.length + 1) + dfl.length = n then g (.obj c fs :: (ds ++ dfl)) else .err
    | none => .err
  | _ => .err := rfl
@[simp] theorem dFld_obj (tab : List (Nat × Nat)) (c : Nat) (ds : List D) : dFld tab (.obj c ds) = (tab.lookup c).bind fun j => ds[j]? := rfl
@[simp] theorem bIsO_obj (tab : List (Nat × Bool)) (c : Nat) (ds : List D) : bIsO tab (.obj c ds) = (tab.lookup c).map .bl := rfl
@[simp] theorem dRaise0_ap (c : Nat) (env : Env) : dRaise0 c env = .exc env c none := rfl
@[simp] theorem dRaise1_ap (c : Nat) (da : Env → Res D) (env : Env) : dRaise1 c da env = (da env).out env fun d => .exc env c (some [d]) := by
  unfold dRaise1; cases da env <;> rfl
def Out.catch (o : Out) (f : Env → Nat → Option (List D) → Out) : Out := match o with
  | .exc e c fs => f e c fs
  | o => o
@[simp] theorem Out.catch_nx (e : Env) (f : Env → Nat → Option (List D) → Out) : (Out.nx e).catch f = .nx e := rfl
@[simp] theorem Out.catch_ret (d : D) (f : Env → Nat → Option (List D) → Out) : (Out.ret d).catch f = .ret d := rfl
@[simp] theorem Out.catch_bk (e : Env) (f : Env → Nat → Option (List D) → Out) : (Out.bk e).catch f = .bk e := rfl
@[simp] theorem Out.catch_ct (e : Env) (f : Env → Nat → Option (List D) → Out) : (Out.ct e).catch f = .ct e := rfl
@[simp] theorem Out.catch_exc (e : Env) (c fs) (f : Env → Nat → Option (List D) → Out) : (Out.exc e c fs).catch f = f e c fs := rfl
@[simp] theorem Out.catch_err (f : Env → Nat → Option (List D) → Out) : (Out.err).catch f = .err := rfl
@[simp] theorem dTryAs_ap (tab : List (Nat × Bool)) (i : Nat) (body suite : Env → Out) (env : Env) : dTryAs tab i body suite env = (body env).catch fun e c fs => match tab.lookup c with
    | some true => outS (fun e => strip (e.set i .un)) (suite ((strip e).set i (.exn c fs)))
    | some false => .exc e c fs
    | none => .err := by
  unfold dTryAs; cases body env <;> rfl
@[simp] theorem dTryO_ap (tab : List (Nat × Bool)) (body suite : Env → Out) (env : Env) : dTryO tab body suite env = (body env).catch fun e c fs => match tab.lookup c with
    | some true => outS id (suite e)
    | some false => .exc e c fs
    | none => .err := by
  unfold dTryO; cases body env <;> rfl
@[simp] theorem outS_nx (f : Env → Env) (e : Env) : outS f (.nx e) = .nx (f e) := rfl
@[simp] theorem outS_bk (f : Env → Env) (e : Env) : outS f (.bk e) = .bk (f e) := rfl
@[simp] theorem outS_ct (f : Env → Env) (e : Env) : outS f (.ct e) = .ct (f e) := rfl
@[simp] theorem outS_ret (f : Env → Env) (d : D) : outS f (.ret d) = .ret d := rfl
@[simp] theorem strip_nil : strip [] = [] := rfl
@[simp] theorem strip_cons (s : Slot) (e : Env) : strip (s :: e) = unx s :: strip e := rfl
@[simp] theorem unx_un : unx .un = .un := rfl
@[simp] theorem unx_val (d : D) : unx (.val d) = .val d := rfl
@[simp] theorem unx_own (d : D) : unx (.own d) = .own d := rfl
@[simp] theorem unx_exn (c fs) : unx (.exn c fs) = .un := rfl
@[simp] theorem dIsE_ap (tab : List (Nat × Bool)) (i : Nat) (env : Env) : dIsE tab i env = match env[i]? with
  | some (.exn c _) => op? ((tab.lookup c).map D.bl)
  | _ => .err := rfl
@[simp] theorem dXf_ap (tab : List (Nat × Nat)) (i : Nat) (env : Env) : dXf tab i env = match env[i]? with
  | some (.exn c (some ds)) => op? ((tab.lookup c).bind fun j => ds[j]?)
  | _ => .err := rfl
@[simp] theorem bList_lst (ds : List D) : bList [.lst ds] = some (.lst ds) := rfl
@[simp] theorem bList_tup (ds : List D) : bList [.tup ds] = some (.lst ds) := rfl
@[simp] theorem bList_scr (ns : List Int) : bList [.scr ns] = some (.lst (ns.map D.int)) := rfl
@[simp] theorem bInt_int (i : Int) : bInt [.int i] = some (.int i) := rfl
@[simp] theorem bInt_bl (b : Bool) : bInt [.bl b] = some (.int (if b then 1 else 0)) := rfl
@[simp] theorem dFn_ap (n N : Nat) (body : Env → Out) (ds : List D) : dFn n N body ds = outR (body (env0 n N ds)) := rfl
end Dn

/-! g.dens -/
namespace Lw
open PySem PySem.Spec PyProof.Rows L2 Dn
/-! what the defs do -/
def ce_is_name_0 : Dn.Env → Res D :=
 (dBin dIn (dPeek 1) (dC (.str "abcdefghijklmnopqrstuvwxyz")))
def body_is_name : Dn.Env → Out :=
 (dSeq (dIf (dOr (dNot (dTru (dUn (bIsB "str") (dPeek 0)))) (dOr (dT (dBin dLt (dBi bLen (dCons (dPeek 0) dNil)) (dC (.int 1)))) (dT (dBin dGt (dBi bLen (dCons (dPeek 0) dNil)) (dC (.int 8))))))
 (dRet (dC (.bl false)))
 dSkip)
 (dRet (dBi bAll (dCons (dComp (dItS (dVar 0)) (tgName 1) dYes ce_is_name_0 [1]) dNil))))
def den_is_name : List D → Res D := dFn 1 2 body_is_name
def body_Parameter_init : Dn.Env → Out :=
 (dSeq (dIf (dNot (dTru (dCall 1 [] den_is_name (dCons (dVar 1) dNil))))
 (dRaise0 1)
 dSkip)
 (dFst [(13, 0), (14, 0), (15, 0), (16, 0), (17, 0)] 0 (dVar 1)))
def den_Parameter_init : Nat → List D → List D → Res (List D) := dInit 1 2 body_Parameter_init
def body_Single_init : Dn.Env → Out :=
 (dSeq (dSup 0 1 [] den_Parameter_init (dCons (dVar 1) dNil))
 (dFst [(13, 1), (14, 1), (16, 1)] 0 (dVar 2)))
def den_Single_init : Nat → List D → List D → Res (List D) := dInit 2 3 body_Single_init
def body_parameter_of : Dn.Env → Out :=
 (dSeq (dIf (dT (dBin dEq (dBin dIxV (dPeek 0) (dC (.int 0))) (dC (.str "seat"))))
 (dRet (dMake 13 2 2 [] den_Single_init (dCons (dBin dIxV (dPeek 0) (dC (.int 1))) (dCons (dBin dIxV (dPeek 0) (dC (.int 2))) dNil))))
 dSkip)
 (dSeq (dIf (dT (dBin dEq (dBin dIxV (dPeek 0) (dC (.int 0))) (dC (.str "both"))))
 (dRet (dMake 14 2 2 [] den_Single_init (dCons (dBin dIxV (dPeek 0) (dC (.int 1))) (dCons (dBin dIxV (dPeek 0) (dC (.int 2))) dNil))))
 dSkip)
 (dSeq (dIf (dT (dBin dEq (dBin dIxV (dPeek 0) (dC (.int 0))) (dC (.str "tail"))))
 (dRet (dMake 15 1 1 [] den_Parameter_init (dCons (dBin dIxV (dPeek 0) (dC (.int 1))) dNil)))
 dSkip)
 (dSeq (dIf (dT (dBin dEq (dBin dIxV (dPeek 0) (dC (.int 0))) (dC (.str "tag"))))
 (dRet (dMake 16 2 2 [] den_Single_init (dCons (dBin dIxV (dPeek 0) (dC (.int 1))) (dCons (dBin dIxV (dPeek 0) (dC (.int 2))) dNil))))
 dSkip)
 (dRet (dMake 17 1 1 [] den_Parameter_init (dCons (dBin dIxV (dPeek 0) (dC (.int 1))) dNil)))))))
def den_parameter_of : List D → Res D := dFn 1 1 body_parameter_of
def body__law_nth : Dn.Env → Out :=
 (dRet (dIfE (dT (dBin dLt (dPeek 1) (dBi bLen (dCons (dPeek 0) dNil)))) (dBin dIxV (dPeek 0) (dPeek 1)) (dC (.int 0))))
def den__law_nth : List D → Res D := dFn 2 2 body__law_nth
def lb__law_called_0 : Dn.Env → Out :=
 (dSeq (dSet 2 (dBin dAdd (dBin dIxV (dC (.str "abcdefghijklmnopqrstuvwxyz")) (dBin dMod (dPeek 1) (dC (.int 26)))) (dPeek 2)))
 (dSet 1 (dBin dFdiv (dPeek 1) (dC (.int 26)))))
def body__law_called : Dn.Env → Out :=
 (dSeq (dIf (dT (dBin dEq (dBin dMod (dPeek 0) (dC (.int 2))) (dC (.int 0))))
 (dRet (dBin dIxV (dLst (dCons (dC (.str "a")) (dCons (dC (.str "b")) (dCons (dC (.str "c")) (dCons (dC (.str "ab")) (dCons (dC (.str "ba")) (dCons (dC (.str "aa")) (dCons (dC (.str "self")) (dCons (dC (.str "abcdefgh")) (dCons (dC (.str "z")) (dCons (dC (.str "zz")) dNil))))))))))) (dBin dMod (dBin dFdiv (dPeek 0) (dC (.int 2))) (dC (.int 10)))))
 dSkip)
 (dSeq (dSet 1 (dBin dFdiv (dPeek 0) (dC (.int 16))))
 (dSeq (dSet 2 (dC (.str "")))
 (dSeq (dFor (dRng1 (dCons (dBin dAdd (dC (.int 1)) (dBin dMod (dBin dFdiv (dPeek 0) (dC (.int 2))) (dC (.int 8)))) dNil)) (tgName 3)
 lb__law_called_0 (kills [3]))
 (dRet (dVar 2))))))
def den__law_called : List D → Res D := dFn 1 4 body__law_called
def body__law_no_name : Dn.Env → Out :=
 (dSeq (dSet 1 (dCall 1 [] den__law_called (dCons (dBin dFdiv (dPeek 0) (dC (.int 8960))) dNil)))
 (dSeq (dSet 2 (dBin dMod (dBin dMod (dBin dFdiv (dPeek 0) (dC (.int 16))) (dC (.int 8))) (dBi bLen (dCons (dPeek 1) dNil))))
 (dSeq (dSet 3 (dLst (dCons (dC (.str "")) (dCons (dBin dAdd (dPeek 1) (dC (.str "abcdefgh"))) (dCons (dC .non) (dCons (dC (.int 7)) (dCons (dC (.bl true)) (dCons (dLst (dCons (dVar 1) dNil)) (dCons (dTup (dCons (dVar 1) dNil)) (dCons (dUn mUpper (dVar 1)) dNil))))))))))
 (dSeq (dIf (dT (dBin dLt (dBin dMod (dPeek 0) (dC (.int 16))) (dC (.int 8))))
 (dRet (dBin dIxV (dPeek 3) (dBin dMod (dPeek 0) (dC (.int 16)))))
 dSkip)
 (dSeq (dIf (dT (dBin dEq (dBin dMod (dPeek 0) (dC (.int 16))) (dC (.int 15))))
 (dRet (dBin dAdd (dPeek 1) (dC (.str "\n"))))
 dSkip)
 (dSeq (dSet 4 (dC (.str " !\"#$&'()*+,-./0123456789:;<=>?@ABCDEFGHIJKLMNOPQRSTUVWXYZ[\\]^_`{|}~\t\n")))
 (dRet (dBin dAdd (dBin dAdd (dSlice dSl (dPeek 1) dNoP (dPart (dVar 2))) (dBin dIxV (dPeek 4) (dBin dMod (dBin dFdiv (dPeek 0) (dC (.int 128))) (dC (.int 70))))) (dSlice dSl (dPeek 1) (dPart (dBin dAdd (dPeek 2) (dBi bInt (dCons (dBin dLt (dBin dMod (dPeek 0) (dC (.int 16))) (dC (.int 14))) dNil)))) dNoP)))))))))
def den__law_no_name : List D → Res D := dFn 1 5 body__law_no_name
def body__law_told : Dn.Env → Out :=
 (dSeq (dSet 1 (dCall 1 [] den__law_called (dCons (dBin dFdiv (dPeek 0) (dC (.int 20))) dNil)))
 (dSeq (dSet 2 (dBin dMod (dPeek 0) (dC (.int 5))))
 (dSeq (dIf (dT (dBin dLt (dPeek 2) (dC (.int 3))))
 (dRet (dTup (dCons (dBin dIxV (dLst (dCons (dC (.str "seat")) (dCons (dC (.str "both")) (dCons (dC (.str "tag")) dNil)))) (dPeek 2)) (dCons (dVar 1) (dCons (dBin dEq (dBin dMod (dBin dFdiv (dPeek 0) (dC (.int 5))) (dC (.int 2))) (dC (.int 1))) dNil)))))
 dSkip)
 (dRet (dTup (dCons (dBin dIxV (dLst (dCons (dC (.str "tail")) (dCons (dC (.str "bag")) dNil))) (dBin dSub (dPeek 2) (dC (.int 3)))) (dCons (dVar 1) dNil)))))))
def den__law_told : List D → Res D := dFn 1 3 body__law_told
def body__law_by_name : Dn.Env → Out :=
 (dSeq (dIf (dT (dBin dEq (dBin dIxV (dPeek 0) (dC (.int 0))) (dC (.str "seat"))))
 (dRet (dMakeK 13 2 1 1 2 den_Single_init (dCons (dBin dIxV (dPeek 0) (dC (.int 1))) dNil) (dCons (dBin dIxV (dPeek 0) (dC (.int 2))) dNil)))
 dSkip)
 (dSeq (dIf (dT (dBin dEq (dBin dIxV (dPeek 0) (dC (.int 0))) (dC (.str "both"))))
 (dRet (dMakeK 14 2 1 1 2 den_Single_init (dCons (dBin dIxV (dPeek 0) (dC (.int 1))) dNil) (dCons (dBin dIxV (dPeek 0) (dC (.int 2))) dNil)))
 dSkip)
 (dRet (dMakeK 16 2 1 1 2 den_Single_init (dCons (dBin dIxV (dPeek 0) (dC (.int 1))) dNil) (dCons (dBin dIxV (dPeek 0) (dC (.int 2))) dNil)))))
def den__law_by_name : List D → Res D := dFn 1 1 body__law_by_name
def body__law_made : Dn.Env → Out :=
 (dSeq (dIf (dT (dBin dEq (dPeek 1) (dC (.int 0))))
 (dRet (dCall 1 [] den_parameter_of (dCons (dVar 0) dNil)))
 dSkip)
 (dSeq (dIf (dT (dBin dEq (dBin dIxV (dPeek 0) (dC (.int 0))) (dC (.str "tail"))))
 (dRet (dMake 15 1 1 [] den_Parameter_init (dCons (dBin dIxV (dPeek 0) (dC (.int 1))) dNil)))
 dSkip)
 (dSeq (dIf (dT (dBin dEq (dBin dIxV (dPeek 0) (dC (.int 0))) (dC (.str "bag"))))
 (dRet (dMake 17 1 1 [] den_Parameter_init (dCons (dBin dIxV (dPeek 0) (dC (.int 1))) dNil)))
 dSkip)
 (dSeq (dIf (dT (dBin dEq (dPeek 1) (dC (.int 2))))
 (dRet (dCall 1 [] den__law_by_name (dCons (dVar 0) dNil)))
 dSkip)
 (dSeq (dIf (dT (dBin dEq (dBin dIxV (dPeek 0) (dC (.int 0))) (dC (.str "seat"))))
 (dRet (dIfE (dTru (dBin dIxV (dPeek 0) (dC (.int 2)))) (dMake 13 2 2 [] den_Single_init (dCons (dBin dIxV (dPeek 0) (dC (.int 1))) (dCons (dBin dIxV (dPeek 0) (dC (.int 2))) dNil))) (dMake 13 2 2 [.bl false] den_Single_init (dCons (dBin dIxV (dPeek 0) (dC (.int 1))) dNil))))
 dSkip)
 (dSeq (dIf (dT (dBin dEq (dBin dIxV (dPeek 0) (dC (.int 0))) (dC (.str "both"))))
 (dRet (dIfE (dTru (dBin dIxV (dPeek 0) (dC (.int 2)))) (dMake 14 2 2 [] den_Single_init (dCons (dBin dIxV (dPeek 0) (dC (.int 1))) (dCons (dBin dIxV (dPeek 0) (dC (.int 2))) dNil))) (dMake 14 2 2 [.bl false] den_Single_init (dCons (dBin dIxV (dPeek 0) (dC (.int 1))) dNil))))
 dSkip)
 (dRet (dIfE (dTru (dBin dIxV (dPeek 0) (dC (.int 2)))) (dMake 16 2 2 [] den_Single_init (dCons (dBin dIxV (dPeek 0) (dC (.int 1))) (dCons (dBin dIxV (dPeek 0) (dC (.int 2))) dNil))) (dMake 16 2 2 [.bl false] den_Single_init (dCons (dBin dIxV (dPeek 0) (dC (.int 1))) dNil))))))))))
def den__law_made : List D → Res D := dFn 2 2 body__law_made
def body__law_sorts : Dn.Env → Out :=
 (dSeq (dSet 1 (dLst (dCons (dUn (bIsO [(13, true), (14, false), (15, false), (16, false), (17, false)]) (dPeek 0)) (dCons (dUn (bIsO [(13, false), (14, true), (15, false), (16, false), (17, false)]) (dPeek 0)) (dCons (dUn (bIsO [(13, false), (14, false), (15, true), (16, false), (17, false)]) (dPeek 0)) (dCons (dUn (bIsO [(13, false), (14, false), (15, false), (16, true), (17, false)]) (dPeek 0)) dNil))))))
 (dRet (dBin dAdd (dPeek 1) (dLst (dCons (dUn (bIsO [(13, false), (14, false), (15, false), (16, false), (17, true)]) (dPeek 0)) (dCons (dUn (bIsO [(13, true), (14, true), (15, true), (16, true), (17, true)]) (dPeek 0)) dNil))))))
def den__law_sorts : List D → Res D := dFn 1 2 body__law_sorts
def body_Both_by_name : Dn.Env → Out :=
 (dRet (dC (.bl true)))
def den_Both_by_name : List D → Res D := dFn 1 1 body_Both_by_name
def body_Both_by_place : Dn.Env → Out :=
 (dRet (dC (.bl true)))
def den_Both_by_place : List D → Res D := dFn 1 1 body_Both_by_place
def body_Parameter_by_name : Dn.Env → Out :=
 (dRet (dC (.bl false)))
def den_Parameter_by_name : List D → Res D := dFn 1 1 body_Parameter_by_name
def body_Parameter_by_place : Dn.Env → Out :=
 (dRet (dC (.bl false)))
def den_Parameter_by_place : List D → Res D := dFn 1 1 body_Parameter_by_place
def body_Parameter_free : Dn.Env → Out :=
 (dRet (dC (.bl true)))
def den_Parameter_free : List D → Res D := dFn 1 1 body_Parameter_free
def body_Bag_word : Dn.Env → Out :=
 (dRet (dC (.str "bag")))
def den_Bag_word : List D → Res D := dFn 1 1 body_Bag_word
def body_Both_word : Dn.Env → Out :=
 (dRet (dC (.str "both")))
def den_Both_word : List D → Res D := dFn 1 1 body_Both_word
def body_Seat_word : Dn.Env → Out :=
 (dRet (dC (.str "seat")))
def den_Seat_word : List D → Res D := dFn 1 1 body_Seat_word
def body_Tag_word : Dn.Env → Out :=
 (dRet (dC (.str "tag")))
def den_Tag_word : List D → Res D := dFn 1 1 body_Tag_word
def body_Tail_word : Dn.Env → Out :=
 (dRet (dC (.str "tail")))
def den_Tail_word : List D → Res D := dFn 1 1 body_Tail_word
def body_Parameter_told : Dn.Env → Out :=
 (dRet (dTup (dCons (dMeth 1 [] [(13, den_Seat_word), (14, den_Both_word), (15, den_Tail_word), (16, den_Tag_word), (17, den_Bag_word)] (dVar 0) dNil) (dCons (dUn (dFld [(13, 0), (14, 0), (15, 0), (16, 0), (17, 0)]) (dPeek 0)) dNil))))
def den_Parameter_told : List D → Res D := dFn 1 1 body_Parameter_told
def body_Seat_by_place : Dn.Env → Out :=
 (dRet (dC (.bl true)))
def den_Seat_by_place : List D → Res D := dFn 1 1 body_Seat_by_place
def body_Single_free : Dn.Env → Out :=
 (dRet (dUn (dFld [(13, 1), (14, 1), (16, 1)]) (dPeek 0)))
def den_Single_free : List D → Res D := dFn 1 1 body_Single_free
def body_Single_told : Dn.Env → Out :=
 (dRet (dTup (dCons (dMeth 1 [] [(13, den_Seat_word), (14, den_Both_word), (15, den_Tail_word), (16, den_Tag_word), (17, den_Bag_word)] (dVar 0) dNil) (dCons (dUn (dFld [(13, 0), (14, 0), (15, 0), (16, 0), (17, 0)]) (dPeek 0)) (dCons (dUn (dFld [(13, 1), (14, 1), (16, 1)]) (dPeek 0)) dNil)))))
def den_Single_told : List D → Res D := dFn 1 1 body_Single_told
def body_Tag_by_name : Dn.Env → Out :=
 (dRet (dC (.bl true)))
def den_Tag_by_name : List D → Res D := dFn 1 1 body_Tag_by_name
def ce__law_is_0 : Dn.Env → Res D :=
 (dBin dEq (dBin dIxV (dPeek 1) (dC (.int 0))) (dPeek 4))
def ce__law_is_1 : Dn.Env → Res D :=
 (dVar 5)
def ct__law_is_2 : Dn.Env → Res Bool :=
 (dNot (dTru (dUn (bIsB "bool") (dPeek 5))))
def body__law_is : Dn.Env → Out :=
 (dSeq (dSet 2 (dLst (dCons (dC (.str "seat")) (dCons (dC (.str "both")) (dCons (dC (.str "tail")) (dCons (dC (.str "tag")) (dCons (dC (.str "bag")) dNil)))))))
 (dSeq (dIf (dT (dBin dNe (dCall 1 [] den__law_sorts (dCons (dVar 0) dNil)) (dBin dAdd (dComp (dItL (dVar 2)) (tgName 4) dYes ce__law_is_0 [4]) (dLst (dCons (dC (.bl true)) dNil)))))
 (dRet (dC (.bl false)))
 dSkip)
 (dSeq (dIf (dOr (dNot (dTru (dUn (bIsB "str") (dUn (dFld [(13, 0), (14, 0), (15, 0), (16, 0), (17, 0)]) (dPeek 0))))) (dOr (dT (dBin dNe (dUn (dFld [(13, 0), (14, 0), (15, 0), (16, 0), (17, 0)]) (dPeek 0)) (dBin dIxV (dPeek 1) (dC (.int 1))))) (dOr (dNot (dTru (dUn (bIsB "tuple") (dMeth 1 [] [(13, den_Single_told), (14, den_Single_told), (15, den_Parameter_told), (16, den_Single_told), (17, den_Parameter_told)] (dVar 0) dNil)))) (dT (dBin dNe (dMeth 1 [] [(13, den_Single_told), (14, den_Single_told), (15, den_Parameter_told), (16, den_Single_told), (17, den_Parameter_told)] (dVar 0) dNil) (dPeek 1))))))
 (dRet (dC (.bl false)))
 dSkip)
 (dSeq (dSet 3 (dLst (dCons (dMeth 1 [] [(13, den_Single_free), (14, den_Single_free), (15, den_Parameter_free), (16, den_Single_free), (17, den_Parameter_free)] (dVar 0) dNil) (dCons (dMeth 1 [] [(13, den_Seat_by_place), (14, den_Both_by_place), (15, den_Parameter_by_place), (16, den_Parameter_by_place), (17, den_Parameter_by_place)] (dVar 0) dNil) (dCons (dMeth 1 [] [(13, den_Parameter_by_name), (14, den_Both_by_name), (15, den_Parameter_by_name), (16, den_Tag_by_name), (17, den_Parameter_by_name)] (dVar 0) dNil) dNil)))))
 (dSeq (dIf (dT (dBin dNe (dComp (dItL (dBin dAdd (dPeek 3) (dBi bList (dCons (dSlice dSl (dMeth 1 [] [(13, den_Single_told), (14, den_Single_told), (15, den_Parameter_told), (16, den_Single_told), (17, den_Parameter_told)] (dVar 0) dNil) (dPart (dC (.int 2))) dNoP) dNil)))) (tgName 5) ct__law_is_2 ce__law_is_1 [5]) (dLst dNil)))
 (dRet (dC (.bl false)))
 dSkip)
 (dSeq (dIf (dT (dBin dNe (dPeek 3) (dLst (dCons (dOrV (dBin dEq (dBi bLen (dCons (dPeek 1) dNil)) (dC (.int 2))) (dBin dIxV (dPeek 1) (dC (.int 2)))) (dCons (dBin dIn (dBin dIxV (dPeek 1) (dC (.int 0))) (dTup (dCons (dC (.str "seat")) (dCons (dC (.str "both")) dNil)))) (dCons (dBin dIn (dBin dIxV (dPeek 1) (dC (.int 0))) (dTup (dCons (dC (.str "both")) (dCons (dC (.str "tag")) dNil)))) dNil))))))
 (dRet (dC (.bl false)))
 dSkip)
 (dRet (dAndV (dBin dEq (dMeth 1 [] [(13, den_Single_told), (14, den_Single_told), (15, den_Parameter_told), (16, den_Single_told), (17, den_Parameter_told)] (dVar 0) dNil) (dPeek 1)) (dBin dEq (dLst (dCons (dMeth 1 [] [(13, den_Single_free), (14, den_Single_free), (15, den_Parameter_free), (16, den_Single_free), (17, den_Parameter_free)] (dVar 0) dNil) (dCons (dMeth 1 [] [(13, den_Seat_by_place), (14, den_Both_by_place), (15, den_Parameter_by_place), (16, den_Parameter_by_place), (17, den_Parameter_by_place)] (dVar 0) dNil) (dCons (dMeth 1 [] [(13, den_Parameter_by_name), (14, den_Both_by_name), (15, den_Parameter_by_name), (16, den_Tag_by_name), (17, den_Parameter_by_name)] (dVar 0) dNil) dNil)))) (dPeek 3))))))))))
def den__law_is : List D → Res D := dFn 2 6 body__law_is
def tb__law_refused_0 : Dn.Env → Out :=
 (dDo (dCall 2 [] den__law_made (dCons (dVar 0) (dCons (dVar 1) dNil))))
def ts__law_refused_1 : Dn.Env → Out :=
 (dSeq (dSet 2 (dAndV (dIsE [(1, true)] 4) (dIsE [(1, true)] 4)))
 (dSet 3 (dIsE [(1, false)] 4)))
def body__law_refused : Dn.Env → Out :=
 (dSeq (dSet 2 (dC (.bl false)))
 (dSeq (dSet 3 (dC (.bl false)))
 (dSeq (dTryAs [(1, true)] 4 tb__law_refused_0 ts__law_refused_1)
 (dRet (dAndV (dVar 2) (dNotV (dVar 3)))))))
def den__law_refused : List D → Res D := dFn 2 5 body__law_refused
def lb_law_0 : Dn.Env → Out :=
 (dSeq (dSet 2 (dCall 1 [] den__law_told (dCons (dBin dFdiv (dPeek 1) (dC (.int 2))) dNil)))
 (dSeq (dSet 3 (dBin dAdd (dC (.int 1)) (dBin dMod (dBin dFdiv (dPeek 1) (dC (.int 20))) (dC (.int 2)))))
 (dSeq (dIf (dNot (dTru (dCall 2 [] den__law_is (dCons (dCall 2 [] den__law_made (dCons (dVar 2) (dCons (dBin dIxV (dLst (dCons (dVar 3) (dCons (dC (.int 0)) dNil))) (dBin dMod (dPeek 1) (dC (.int 2)))) dNil))) (dCons (dVar 2) dNil)))))
 (dRet (dC (.bl false)))
 dSkip)
 (dSeq (dSet 4 (dBin dAdd (dTup (dCons (dBin dIxV (dPeek 2) (dC (.int 0))) (dCons (dCall 1 [] den__law_no_name (dCons (dBin dFdiv (dPeek 1) (dC (.int 40))) dNil)) dNil))) (dSlice dSl (dPeek 2) (dPart (dC (.int 2))) dNoP)))
 (dIf (dOr (dNot (dTru (dCall 2 [] den__law_refused (dCons (dVar 4) (dCons (dVar 3) dNil))))) (dNot (dTru (dCall 2 [] den__law_refused (dCons (dVar 4) (dCons (dC (.int 0)) dNil))))))
 (dRet (dC (.bl false)))
 dSkip)))))
def body_law : Dn.Env → Out :=
 (dSeq (dFor (dItL (dBin dAdd (dSlice dSl (dPeek 0) dNoP (dPart (dC (.int 40)))) (dLst (dCons (dBin dAdd (dCall 2 [] den__law_nth (dCons (dVar 0) (dCons (dC (.int 0)) dNil))) (dC (.int 1))) dNil)))) (tgName 1)
 lb_law_0 (kills [1, 2, 3, 4]))
 (dRet (dC (.bl true))))
def den_law : List D → Res D := dFn 1 5 body_law
end Lw

/-! PureAll.lean -/
namespace Dn
open L2 PySem
/-! general laws of loops and comprehensions -/
theorem dCompL_map {α : Type} {tgt : D → Env → Option Env} {tst : Env → Res Bool} {elt : Env → Res D} {e : Env} (emb : α → D) (p : α → Bool) (g : α → D) : ∀ (ts : List α),
    (∀ t ∈ ts, ∃ e1, tgt (emb t) e = some e1 ∧ tst e1 = .ok (p t) ∧ (p t = true → elt e1 = .ok (g t))) → dCompL tgt tst elt e (ts.map emb) = .ok ((ts.filter p).map g)
  | [], _ => rfl
  | t :: ts, h => by
    obtain ⟨e1, h1, h2, h3⟩ := h t List.mem_cons_self
    have ih := dCompL_map emb p g ts fun t ht => h t (List.mem_cons_of_mem _ ht)
    rw [List.map_cons]
    unfold dCompL
    rw [h1]
    simp only [h2]
    cases z : p t with
    | false => simp only [z]; rw [ih, List.filter_cons_of_neg (by simp [z])]
    | true => simp only [z, h3 z, ih]; rw [List.filter_cons_of_pos z, List.map_cons]
theorem dCompL_all {α : Type} {tgt : D → Env → Option Env} {elt : Env → Res D} {e : Env} (emb : α → D) (g : α → D) (ts : List α)
    (h : ∀ t ∈ ts, ∃ e1, tgt (emb t) e = some e1 ∧ elt e1 = .ok (g t)) : dCompL tgt dYes elt e (ts.map emb) = .ok (ts.map g) := by
  have := dCompL_map (tst := dYes) emb (fun _ => true) g ts fun t ht => let ⟨e1, a, b⟩ := h t ht; ⟨e1, a, rfl, fun _ => b⟩
  rw [this, List.filter_eq_self.mpr fun _ _ => rfl]
theorem dLoop_const {α : Type} {tgt : D → Env → Option Env} {body : Env → Out} {kl : Env → Env} {e : Env} (emb : α → D) : ∀ (ts : List α),
    (∀ t ∈ ts, ∃ e1 e2, tgt (emb t) e = some e1 ∧ (body e1 = .nx e2 ∨ body e1 = .ct e2) ∧ kl e2 = e) → dLoop tgt body kl (ts.map emb) e = .nx e
  | [], _ => rfl
  | t :: ts, h => by
    obtain ⟨e1, e2, h1, h2, h3⟩ := h t List.mem_cons_self
    have ih := dLoop_const emb ts fun t ht => h t (List.mem_cons_of_mem _ ht)
    rw [List.map_cons]
    unfold dLoop
    rw [h1]
    rcases h2 with h2 | h2 <;> simp only [h2, h3, ih]
theorem bools_map {α : Type} (f : α → Bool) : ∀ ts : List α, bools (ts.map fun t => D.bl (f t)) = some (ts.map f)
  | [] => rfl
  | t :: ts => by simp [bools, bools_map f ts]
theorem bAll_map {α : Type} (f : α → Bool) (ts : List α) : bAll [.lst (ts.map fun t => D.bl (f t))] = some (.bl (ts.all f)) := by
  simp [bAll, bools_map f ts, List.all_map]
theorem bAny_map {α : Type} (f : α → Bool) (ts : List α) : bAny [.lst (ts.map fun t => D.bl (f t))] = some (.bl (ts.any f)) := by
  simp [bAny, bools_map f ts, List.any_map]
/-! names -/
def letters : Str := "abcdefghijklmnopqrstuvwxyz"
def isLet (c : Nat) : Bool := decide (c ∈ letters.cps)
def isNm (s : Str) : Bool := decide (1 ≤ s.length) && (decide (s.length ≤ 8) && s.cps.all isLet)
theorem letters_eq : letters.cps.toList = List.range' 97 26 := by decide +kernel
theorem isLet_iff (c : Nat) : isLet c = true ↔ 97 ≤ c ∧ c < 123 := by
  unfold isLet; rw [decide_eq_true_iff, ← Array.mem_toList_iff, letters_eq, List.mem_range'_1]
theorem str_ext {a b : Str} (h : a.cps.toList = b.cps.toList) : a = b := by
  cases a; cases b; congr; exact Array.ext' (by simpa using h)
theorem str_len (a : Str) : a.length = a.cps.toList.length := by simp [Str.length]
theorem sub1_sign (c : Nat) (z : Str) : dIn (.str ⟨#[c]⟩) (.str z) = some (.bl (decide (c ∈ z.cps.toList))) := by
  simp [dIn, dInB, D.sub1]
end Dn
namespace Lw
open Dn L2 PySem
theorem is_name_str (s : Str) : den_is_name [.str s] = .ok (.bl (isNm s)) := by
  have hc : dCompL (tgName 1).f dYes ce_is_name_0 [.val (.str s), .un] (signsD s) = .ok (s.cps.toList.map fun c => D.bl (isLet c)) :=
    dCompL_all (fun c => D.str ⟨#[c]⟩) _ _ fun c _ => ⟨_, rfl, by simp [ce_is_name_0, sub1_sign]; rfl⟩
  have hs : subB "str" "str" = true := by decide
  have hk : "str" ∈ tyKnown := by decide
  unfold isNm
  by_cases h1 : s.length < 1
  · have e1 : decide ((s.length : Int) < 1) = true := decide_eq_true (by omega)
    simp [den_is_name, dFn, body_is_name, env0, tyN, hs, hk, e1]; omega
  · have e1 : decide ((s.length : Int) < 1) = false := decide_eq_false (by omega)
    by_cases h2 : 8 < s.length
    · have e2 : decide ((8 : Int) < s.length) = true := decide_eq_true (by omega)
      simp [den_is_name, dFn, body_is_name, env0, tyN, hs, hk, e1, e2]; omega
    · have e2 : decide ((8 : Int) < s.length) = false := decide_eq_false (by omega)
      have e3 : 1 ≤ s.length := by omega
      have e4 : s.length ≤ 8 := by omega
      simp [den_is_name, dFn, body_is_name, env0, tyN, hs, hk, e1, e2, hc, bAll_map, e3, e4]

theorem is_name_other (d : D) (a : String) (h : tyN d = some a) (hn : (a == "str") = false) (hb : subB a "str" = false) : den_is_name [d] = .ok (.bl false) := by
  have hk : "str" ∈ tyKnown := by decide
  simp [den_is_name, dFn, body_is_name, env0, h, hk, hb]
theorem nm_iff (s : Str) : isNm s = true ↔ 1 ≤ s.length ∧ s.length ≤ 8 ∧ ∀ c ∈ s.cps.toList, isLet c = true := by
  unfold isNm
  rw [Bool.and_eq_true, Bool.and_eq_true, decide_eq_true_iff, decide_eq_true_iff, Array.all_eq_true_iff_forall_mem]
  simp
theorem app_cps (a b : Str) : (a ++ b).cps.toList = a.cps.toList ++ b.cps.toList := by
  show (a.cps ++ b.cps).toList = _; simp
theorem app_len (a b : Str) : (a ++ b).length = a.length + b.length := by
  show (a.cps ++ b.cps).size = _; simp [Str.length]
/-- the loop that writes letters -/
theorem called_loop (x : Slot) : ∀ (ds : List D) (r : Int) (s : Str), s.length + ds.length ≤ 1000 → (∀ c ∈ s.cps.toList, isLet c = true) → ∃ (r' : Int) (s' : Str), s'.length = s.length + ds.length ∧ (∀ c ∈ s'.cps.toList, isLet c = true) ∧
    dLoop (tgName 3).f lb__law_called_0 (kills [3]) ds [x, .val (.int r), .val (.str s), .un] = .nx [x, .val (.int r'), .val (.str s'), .un]
  | [], r, s, _, hs => ⟨r, s, by simp, hs, rfl⟩
  | d :: ds, r, s, hl, hs => by
    have h26 : (26 : Int) = (letters.cps.toList.length : Int) := by decide +kernel
    obtain ⟨c, hc, ha⟩ := atI_mem (xs := letters.cps.toList) (i := r % 26) (Int.emod_nonneg _ (by decide)) (by rw [← h26]; exact Int.emod_lt_of_pos _ (by decide))
    have hn : ∀ k ∈ ((⟨#[c]⟩ : Str) ++ s).cps.toList, isLet k = true := fun k hk => by
      rw [app_cps] at hk
      rcases List.mem_append.mp hk with z | z
      · have : k = c := by simpa using z
        subst this
        unfold isLet; exact decide_eq_true (by simpa using hc)
      · exact hs k z
    have hl3 : ((⟨#[c]⟩ : Str) ++ s).length = 1 + s.length := by rw [app_len]; rfl
    simp only [List.length_cons] at hl
    obtain ⟨r', s', h1, h2, h3⟩ := called_loop x ds (r / 26) (⟨#[c]⟩ ++ s) (by omega) hn
    refine ⟨r', s', by rw [h1, hl3]; simp; omega, h2, ?_⟩
    rw [← h3]
    have ha' : atI (Str.ofString "abcdefghijklmnopqrstuvwxyz").cps.toList (r % 26) = some c := ha
    have hadd : dAdd (.str ⟨#[c]⟩) (.str s) = some (.str (⟨#[c]⟩ ++ s)) := by
      unfold dAdd; simp only; rw [if_pos (by rw [sizeLine_eq]; show 1 + s.length ≤ _; omega)]
    conv => lhs; unfold dLoop
    simp [lb__law_called_0, ha', hadd]

theorem rng_len (lo : Int) (n : Nat) : (rngD lo n).length = n := by simp [rngD]
/-- a name comes of any cell -/
theorem called_ok (c : Int) : ∃ s, den__law_called [.int c] = .ok (.str s) ∧ isNm s = true := by
  by_cases h : c % 2 = 0
  · have hall : ∀ d ∈ [D.str (Str.ofString "a"), D.str (Str.ofString "b"), D.str (Str.ofString "c"), D.str (Str.ofString "ab"), D.str (Str.ofString "ba"), D.str (Str.ofString "aa"), D.str (Str.ofString "self"), D.str (Str.ofString "abcdefgh"), D.str (Str.ofString "z"), D.str (Str.ofString "zz")], ∃ s, d = D.str s ∧ isNm s = true := by
      intro d hd
      simp only [List.mem_cons, List.not_mem_nil, or_false] at hd
      rcases hd with h | h | h | h | h | h | h | h | h | h <;> exact ⟨_, h, by decide +kernel⟩
    obtain ⟨d, hd, ha⟩ := atI_mem (xs := [D.str (Str.ofString "a"), D.str (Str.ofString "b"), D.str (Str.ofString "c"), D.str (Str.ofString "ab"), D.str (Str.ofString "ba"), D.str (Str.ofString "aa"), D.str (Str.ofString "self"), D.str (Str.ofString "abcdefgh"), D.str (Str.ofString "z"), D.str (Str.ofString "zz")]) (i := c / 2 % 10) (Int.emod_nonneg _ (by decide)) (Int.emod_lt_of_pos _ (by decide))
    obtain ⟨s, rfl, hs⟩ := hall d hd
    exact ⟨s, by simp [den__law_called, dFn, body__law_called, env0, h, ha], hs⟩
  · have h1 : (c % 2 == 0) = false := by simpa using h
    have hb : 0 ≤ c / 2 % 8 := Int.emod_nonneg _ (by decide)
    have hb2 : c / 2 % 8 < 8 := Int.emod_lt_of_pos _ (by decide)
    obtain ⟨r', s', e1, e2, e3⟩ := called_loop (.val (.int c)) (rngD 0 (1 + c / 2 % 8).toNat) (c / 16) (Str.ofString "") (by rw [rng_len]; show 0 + _ ≤ _; omega) (by intro k hk; cases hk)
    refine ⟨s', ?_, (nm_iff s').mpr ⟨?_, ?_, e2⟩⟩
    · have hr : (1 + c / 2 % 8 ≤ 1000000 ∧ -1000000000 ≤ 1 + c / 2 % 8) := by omega
      simp [den__law_called, dFn, body__law_called, env0, h1, hr, e3]
    · rw [e1, rng_len]; show 1 ≤ 0 + _; omega
    · rw [e1, rng_len]; show 0 + _ ≤ 8; omega

theorem add_str {a b : Str} (h : a.length + b.length ≤ 10000) : dAdd (.str a) (.str b) = some (.str (a ++ b)) := by
  unfold dAdd; simp only; rw [if_pos (Nat.le_trans h (by rw [sizeLine_eq]; decide))]
theorem cutS_len (z : Str) (lo hi : Option Int) : (cutS z lo hi).length ≤ z.length := by
  show (((z.cps.toList.drop (HT.sIx z.length 0 lo)).take (HT.sIx z.length z.length hi - HT.sIx z.length 0 lo)).toArray).size ≤ z.cps.size
  rw [List.size_toArray, List.length_take, List.length_drop, Array.length_toList]
  omega
theorem cutS_mem {z : Str} {lo hi : Option Int} {c : Nat} (h : c ∈ (cutS z lo hi).cps.toList) : c ∈ z.cps.toList := by
  have h : c ∈ (z.cps.toList.drop (HT.sIx z.length 0 lo)).take (HT.sIx z.length z.length hi - HT.sIx z.length 0 lo) := by simpa [cutS] using h
  exact List.mem_of_mem_drop (List.mem_of_mem_take h)
theorem not_nm {s : Str} {c : Nat} (h : c ∈ s.cps.toList) (hc : isLet c = false) : isNm s = false := by
  cases z : isNm s with
  | false => rfl
  | true => have := ((nm_iff s).mp z).2.2 c h; rw [hc] at this; cases this
theorem nth_ok (ns : List Int) (k : Int) (h : 0 ≤ k) : ∃ z, den__law_nth [.scr ns, .int k] = .ok (.int z) := by
  by_cases hk : k < ns.length
  · obtain ⟨z, _, ha⟩ := atI_mem h hk
    exact ⟨z, by simp [den__law_nth, dFn, body__law_nth, env0, hk, ha]⟩
  · exact ⟨0, by simp [den__law_nth, dFn, body__law_nth, env0, hk]⟩
theorem upper_nm {s : Str} (hs : isNm s = true) : mUpper (.str s) = some (.str (Txt.upper s)) ∧ isNm (Txt.upper s) = false := by
  obtain ⟨l1, l8, lets⟩ := (nm_iff s).mp hs
  have hb : ∀ c ∈ s.cps.toList, c < 128 := fun c hc => by have := (isLet_iff c).mp (lets c hc); omega
  have e : Txt.upper s = ⟨s.cps.map PyProof.Rows.up1⟩ := PyProof.Rows.upper_ascii hb
  have el : (Txt.upper s).length = s.length := by rw [e]; simp [Str.length]
  refine ⟨?_, ?_⟩
  · unfold mUpper
    simp only
    rw [if_pos]
    refine ⟨by omega, sOk_mk (by rw [el, sizeLine_eq]; omega) fun c hc => ?_⟩
    rw [e] at hc
    obtain ⟨a, ha, rfl⟩ : ∃ a, a ∈ s.cps.toList ∧ PyProof.Rows.up1 a = c := by simpa using hc
    have := hb a ha
    unfold PyProof.Rows.up1; split <;> omega
  · have h0 : 0 < s.cps.toList.length := by rw [← str_len]; omega
    have hm : s.cps.toList[0] ∈ s.cps.toList := List.getElem_mem h0
    refine not_nm (c := PyProof.Rows.up1 s.cps.toList[0]) (by rw [e]; simpa using ⟨_, by simpa using hm, rfl⟩) ?_
    have h1 := (isLet_iff _).mp (lets _ hm)
    cases z : isLet (PyProof.Rows.up1 s.cps.toList[0]) with
    | false => rfl
    | true =>
      have h2 := (isLet_iff _).mp z
      unfold PyProof.Rows.up1 at h2
      rw [if_pos (by omega)] at h2
      omega
theorem nl_nm (s : Str) : isNm (s ++ Str.ofString "\n") = false := not_nm (c := 10) (by rw [app_cps]; exact List.mem_append_right _ (by decide +kernel)) (by decide +kernel)
end Lw
namespace Lw
open Dn L2 PySem
inductive Sort' | seat | both | tag | tail | bag
open Sort'
def rowD (k : Sort') (s : D) (b : Bool) : D := match k with
  | seat => .tup [.str "seat", s, .bl b] | both => .tup [.str "both", s, .bl b] | tag => .tup [.str "tag", s, .bl b]
  | tail => .tup [.str "tail", s] | bag => .tup [.str "bag", s]
def objD (k : Sort') (s : D) (b : Bool) : D := match k with
  | seat => .obj 13 [s, .bl b] | both => .obj 14 [s, .bl b] | tag => .obj 16 [s, .bl b] | tail => .obj 15 [s] | bag => .obj 17 [s]
theorem pinit_ok {c : Nat} (hc : c ∈ [13, 14, 15, 16, 17]) {s : Str} (h : isNm s = true) : den_Parameter_init c [] [.str s] = .ok [.str s] := by
  simp only [List.mem_cons, List.not_mem_nil, or_false] at hc
  rcases hc with rfl | rfl | rfl | rfl | rfl <;> simp [den_Parameter_init, body_Parameter_init, envI, is_name_str, h, List.lookup]
theorem pinit_no (c : Nat) {d : D} (h : den_is_name [d] = .ok (.bl false)) : den_Parameter_init c [] [d] = .exc 1 none := by
  simp [den_Parameter_init, body_Parameter_init, envI, h]
theorem sinit_ok {c : Nat} (hc : c ∈ [13, 14, 16]) {s : Str} (h : isNm s = true) (b : D) : den_Single_init c [] [.str s, b] = .ok [.str s, b] := by
  simp only [List.mem_cons, List.not_mem_nil, or_false] at hc
  rcases hc with rfl | rfl | rfl <;> simp [den_Single_init, body_Single_init, envI, pinit_ok, h, List.lookup]
theorem sinit_no (c : Nat) {d : D} (h : den_is_name [d] = .ok (.bl false)) (b : D) : den_Single_init c [] [d, b] = .exc 1 none := by
  simp [den_Single_init, body_Single_init, envI, pinit_no c h]
def eqS (a b : Str) : Bool := a == b
theorem ws : (Str.ofString "seat" == Str.ofString "both") = false ∧ (Str.ofString "seat" == Str.ofString "tag") = false ∧ (Str.ofString "seat" == Str.ofString "tail") = false ∧ (Str.ofString "seat" == Str.ofString "bag") = false ∧
    (Str.ofString "both" == Str.ofString "seat") = false ∧ (Str.ofString "both" == Str.ofString "tag") = false ∧ (Str.ofString "both" == Str.ofString "tail") = false ∧ (Str.ofString "both" == Str.ofString "bag") = false ∧
    (Str.ofString "tag" == Str.ofString "seat") = false ∧ (Str.ofString "tag" == Str.ofString "both") = false ∧ (Str.ofString "tag" == Str.ofString "tail") = false ∧ (Str.ofString "tag" == Str.ofString "bag") = false ∧
    (Str.ofString "tail" == Str.ofString "seat") = false ∧ (Str.ofString "tail" == Str.ofString "both") = false ∧ (Str.ofString "tail" == Str.ofString "tag") = false ∧ (Str.ofString "tail" == Str.ofString "bag") = false ∧
    (Str.ofString "bag" == Str.ofString "seat") = false ∧ (Str.ofString "bag" == Str.ofString "both") = false ∧ (Str.ofString "bag" == Str.ofString "tag") = false ∧ (Str.ofString "bag" == Str.ofString "tail") = false := by decide +kernel
theorem made_ok (k : Sort') {s : Str} (h : isNm s = true) (b : Bool) {w : Int} (hw : w = 0 ∨ w = 1 ∨ w = 2) : den__law_made [rowD k (.str s) b, .int w] = .ok (objD k (.str s) b) := by
  have q := ws
  rcases hw with rfl | rfl | rfl <;> cases k <;> cases b <;>
    simp [den__law_made, body__law_made, env0, rowD, objD, den_parameter_of, body_parameter_of, den__law_by_name, body__law_by_name, sinit_ok, pinit_ok, h, q]
theorem made_no (k : Sort') {d : D} (h : den_is_name [d] = .ok (.bl false)) (b : Bool) {w : Int} (hw : w = 0 ∨ w = 1 ∨ w = 2) : den__law_made [rowD k d b, .int w] = .exc 1 none := by
  have q := ws
  rcases hw with rfl | rfl | rfl <;> cases k <;> cases b <;>
    simp [den__law_made, body__law_made, env0, rowD, den_parameter_of, body_parameter_of, den__law_by_name, body__law_by_name, sinit_no, pinit_no, h, q]
theorem refused_ok (k : Sort') {d : D} (h : den_is_name [d] = .ok (.bl false)) (b : Bool) {w : Int} (hw : w = 0 ∨ w = 1 ∨ w = 2) : den__law_refused [rowD k d b, .int w] = .ok (.bl true) := by
  simp [den__law_refused, body__law_refused, env0, tb__law_refused_0, made_no k h b hw, List.lookup, ts__law_refused_1]
theorem in2 (a b c : Str) : dIn (.str a) (.tup [.str b, .str c]) = some (.bl (b == a || c == a)) := by
  simp [dIn, dInB, dInD, D.sub1, dInT, flatD, eqF, D.py, pys]
theorem sorts_ok (k : Sort') (s : D) (b : Bool) : den__law_sorts [objD k s b] = .ok (.lst [.bl (match k with | seat => true | _ => false), .bl (match k with | both => true | _ => false), .bl (match k with | tail => true | _ => false), .bl (match k with | tag => true | _ => false), .bl (match k with | bag => true | _ => false), .bl true]) := by
  cases k <;> simp [den__law_sorts, body__law_sorts, env0, objD, List.lookup, dAdd, sizeLine_eq]
theorem told_o (k : Sort') (s : D) (b : Bool) : (match k with | tail => den_Parameter_told | bag => den_Parameter_told | _ => den_Single_told) [objD k s b] = .ok (rowD k s b) := by
  cases k <;> simp [den_Single_told, body_Single_told, den_Parameter_told, body_Parameter_told, env0, objD, rowD, List.lookup, den_Seat_word, body_Seat_word, den_Both_word, body_Both_word, den_Tag_word, body_Tag_word, den_Tail_word, body_Tail_word, den_Bag_word, body_Bag_word]
theorem is_ok (k : Sort') (s : Str) (b : Bool) : den__law_is [objD k (.str s) b, rowD k (.str s) b] = .ok (.bl true) := by
  have q := ws
  have h1 := sorts_ok k (.str s) b
  have h2 := told_o k (.str s) b
  have k1 : "str" ∈ tyKnown := by decide
  have k2 : "bool" ∈ tyKnown := by decide
  have k3 : "tuple" ∈ tyKnown := by decide
  have s1 : subB "str" "str" = true := by decide
  have s2 : subB "bool" "bool" = true := by decide
  have s3 : subB "tuple" "tuple" = true := by decide
  have c3 : ∀ a b c : D, dSl (.tup [a, b, c]) (some 2) none = some (.tup [c]) := fun a b c => by simp [dSl, cutD, HT.sIx]
  have c2 : ∀ a b : D, dSl (.tup [a, b]) (some 2) none = some (.tup []) := fun a b => by simp [dSl, cutD, HT.sIx]
  cases k <;> simp only [objD, rowD] at h1 h2 <;>
  simp [c3, c2, in2, den__law_is, body__law_is, env0, h1, h2, objD, rowD, List.lookup, ce__law_is_0, ce__law_is_1, ct__law_is_2, dCompL, q, dAdd, sizeLine_eq, dNe, dEq, dEqB, D.py, pys, PyData.depth, PyData.depthAll, PyData.eqv, PyData.eqvAll, tyN, k1, k2, k3, s1, s2, s3,
    den_Single_free, body_Single_free, den_Parameter_free, body_Parameter_free, den_Seat_by_place, body_Seat_by_place, den_Both_by_place, body_Both_by_place, den_Parameter_by_place, body_Parameter_by_place, den_Both_by_name, body_Both_by_name, den_Tag_by_name, body_Tag_by_name, den_Parameter_by_name, body_Parameter_by_name]
theorem told_ok (c : Int) : ∃ k s b, den__law_told [.int c] = .ok (rowD k (.str s) b) ∧ isNm s = true := by
  obtain ⟨s, h1, hs⟩ := called_ok (c / 20)
  have b0 : 0 ≤ c % 5 := Int.emod_nonneg _ (by decide)
  have b1 : c % 5 < 5 := Int.emod_lt_of_pos _ (by decide)
  have cs : c % 5 = 0 ∨ c % 5 = 1 ∨ c % 5 = 2 ∨ c % 5 = 3 ∨ c % 5 = 4 := by omega
  rcases cs with h | h | h | h | h
  · exact ⟨seat, s, c / 5 % 2 == 1, by simp [den__law_told, body__law_told, env0, h1, h, rowD], hs⟩
  · exact ⟨both, s, c / 5 % 2 == 1, by simp [den__law_told, body__law_told, env0, h1, h, rowD], hs⟩
  · exact ⟨tag, s, c / 5 % 2 == 1, by simp [den__law_told, body__law_told, env0, h1, h, rowD], hs⟩
  · exact ⟨tail, s, true, by simp [den__law_told, body__law_told, env0, h1, h, rowD], hs⟩
  · exact ⟨bag, s, true, by simp [den__law_told, body__law_told, env0, h1, h, rowD], hs⟩
theorem is_no_str {s : Str} (h : isNm s = false) : den_is_name [.str s] = .ok (.bl false) := by rw [is_name_str, h]
theorem signs_no : ∀ k ∈ (Str.ofString " !\"#$&'()*+,-./0123456789:;<=>?@ABCDEFGHIJKLMNOPQRSTUVWXYZ[\\]^_`{|}~\t\n").cps.toList, isLet k = false := by decide +kernel
theorem no_name_ok (c : Int) : ∃ d, den__law_no_name [.int c] = .ok d ∧ den_is_name [d] = .ok (.bl false) := by
  obtain ⟨s, h1, hs⟩ := called_ok (c / 8960)
  obtain ⟨l1, l8, lets⟩ := (nm_iff s).mp hs
  have hm : dMod (.int (c / 16 % 8)) (.int (s.length : Int)) = some (.int (c / 16 % 8 % s.length)) := dMod_int _ _ (by omega)
  obtain ⟨u1, u2⟩ := upper_nm hs
  have b0 : 0 ≤ c % 16 := Int.emod_nonneg _ (by decide)
  have b1 : c % 16 < 16 := Int.emod_lt_of_pos _ (by decide)
  have l9 : (Str.ofString "abcdefgh").length = 8 := by decide +kernel
  have d0 : dAdd (.str s) (.str (Str.ofString "abcdefgh")) = some (.str (s ++ Str.ofString "abcdefgh")) := add_str (by omega)
  have lnl : (Str.ofString "\n").length = 1 := by decide +kernel
  have dn : dAdd (.str s) (.str (Str.ofString "\n")) = some (.str (s ++ Str.ofString "\n")) := add_str (by omega)
  by_cases a1 : c % 16 < 8
  · have o : ∃ d, atI [D.str (Str.ofString ""), D.str (s ++ Str.ofString "abcdefgh"), D.non, D.int 7, D.bl true, D.lst [D.str s], D.tup [D.str s], D.str (Txt.upper s)] (c % 16) = some d ∧ d ∈ [D.str (Str.ofString ""), D.str (s ++ Str.ofString "abcdefgh"), D.non, D.int 7, D.bl true, D.lst [D.str s], D.tup [D.str s], D.str (Txt.upper s)] := by
      obtain ⟨d, hd, ha⟩ := atI_mem (xs := [D.str (Str.ofString ""), D.str (s ++ Str.ofString "abcdefgh"), D.non, D.int 7, D.bl true, D.lst [D.str s], D.tup [D.str s], D.str (Txt.upper s)]) (i := c % 16) b0 (by simpa using a1)
      exact ⟨d, ha, hd⟩
    obtain ⟨d, ha, hd⟩ := o
    refine ⟨d, by simp [den__law_no_name, body__law_no_name, env0, h1, hm, d0, u1, a1, ha], ?_⟩
    simp only [List.mem_cons, List.not_mem_nil, or_false] at hd
    rcases hd with rfl | rfl | rfl | rfl | rfl | rfl | rfl | rfl
    · exact is_no_str (by decide +kernel)
    · refine is_no_str ?_
      have : 8 < (s ++ Str.ofString "abcdefgh").length := by rw [app_len]; omega
      unfold isNm
      have e : decide ((s ++ Str.ofString "abcdefgh").length ≤ 8) = false := decide_eq_false (by omega)
      rw [e]; simp
    · exact is_name_other _ _ rfl (by decide) (by decide)
    · exact is_name_other _ _ rfl (by decide) (by decide)
    · exact is_name_other _ _ rfl (by decide) (by decide)
    · exact is_name_other _ _ rfl (by decide) (by decide)
    · exact is_name_other _ _ rfl (by decide) (by decide)
    · exact is_no_str u2
  · by_cases a2 : c % 16 = 15
    · exact ⟨.str (s ++ Str.ofString "\n"), by simp [den__law_no_name, body__law_no_name, env0, h1, hm, d0, dn, u1, a2], is_no_str (nl_nm s)⟩
    · have q0 : 0 ≤ c / 128 % 70 := Int.emod_nonneg _ (by decide)
      have q1 : c / 128 % 70 < 70 := Int.emod_lt_of_pos _ (by decide)
      have l70 : ((Str.ofString " !\"#$&'()*+,-./0123456789:;<=>?@ABCDEFGHIJKLMNOPQRSTUVWXYZ[\\]^_`{|}~\t\n").cps.toList.length : Int) = 70 := by decide +kernel
      obtain ⟨k, hk, ha⟩ := atI_mem (xs := (Str.ofString " !\"#$&'()*+,-./0123456789:;<=>?@ABCDEFGHIJKLMNOPQRSTUVWXYZ[\\]^_`{|}~\t\n").cps.toList) (i := c / 128 % 70) q0 (by rw [l70]; exact q1)
      have kn := signs_no k hk
      have w1 := cutS_len s none (some (c / 16 % 8 % s.length))
      have w2 := cutS_len s (some (c / 16 % 8 % s.length + if c % 16 < 14 then 1 else 0)) none
      have d1 : dAdd (.str (cutS s none (some (c / 16 % 8 % s.length)))) (.str ⟨#[k]⟩) = some (.str (cutS s none (some (c / 16 % 8 % s.length)) ++ ⟨#[k]⟩)) := add_str (by show _ + 1 ≤ _; omega)
      have q3 : (cutS s none (some (c / 16 % 8 % s.length)) ++ (⟨#[k]⟩ : Str)).length ≤ 9 := by rw [app_len]; show _ + 1 ≤ _; omega
      have d2 := add_str (a := cutS s none (some (c / 16 % 8 % s.length)) ++ ⟨#[k]⟩) (b := cutS s (some (c / 16 % 8 % s.length + if c % 16 < 14 then 1 else 0)) none) (by omega)
      refine ⟨.str (cutS s none (some (c / 16 % 8 % s.length)) ++ ⟨#[k]⟩ ++ cutS s (some (c / 16 % 8 % s.length + if c % 16 < 14 then 1 else 0)) none), ?_, is_no_str (not_nm (c := k) (by rw [app_cps, app_cps]; simp) kn)⟩
      have a3 : (c % 16 == 15) = false := by simpa using a2
      simp [den__law_no_name, body__law_no_name, env0, h1, hm, d0, u1, a1, a3, ha, dSl, d1, d2]
theorem turn_ok (x : Slot) (c : Int) : ∃ a b z, lb_law_0 [x, .val (.int c), .un, .un, .un] = .nx [x, .val (.int c), a, b, z] := by
  obtain ⟨k, s, b, h1, hs⟩ := told_ok (c / 2)
  obtain ⟨d, h2, hd⟩ := no_name_ok (c / 40)
  have c3 : ∀ a b c : D, dSl (.tup [a, b, c]) (some 2) none = some (.tup [c]) := fun a b c => by simp [dSl, cutD, HT.sIx]
  have c2 : ∀ a b : D, dSl (.tup [a, b]) (some 2) none = some (.tup []) := fun a b => by simp [dSl, cutD, HT.sIx]
  have w1 : 1 + c / 20 % 2 = 0 ∨ 1 + c / 20 % 2 = 1 ∨ 1 + c / 20 % 2 = 2 := by omega
  have w2 : ∃ w : Int, atI [D.int (1 + c / 20 % 2), D.int 0] (c % 2) = some (.int w) ∧ (w = 0 ∨ w = 1 ∨ w = 2) := by
    have : c % 2 = 0 ∨ c % 2 = 1 := by omega
    rcases this with h | h <;> rw [h]
    · exact ⟨_, atI_0 _ _, w1⟩
    · exact ⟨_, atI_1 _ _ _, .inl rfl⟩
  obtain ⟨w, hw, w3⟩ := w2
  have m1 := made_ok k hs b w3
  have i1 := is_ok k s b
  have r1 := refused_ok k hd b w1
  have r2 := refused_ok k hd b (w := 0) (.inl rfl)
  refine ⟨.val (rowD k (.str s) b), .val (.int (1 + c / 20 % 2)), .val (rowD k d b), ?_⟩
  have e0 : ∃ q, dIxV (rowD k (.str s) b) (.int 0) = some q ∧ ∃ r, dSl (rowD k (.str s) b) (some 2) none = some (.tup r) ∧ dAdd (.tup [q, d]) (.tup r) = some (rowD k d b) := by
    cases k
    · exact ⟨.str "seat", by simp [rowD], _, c3 _ _ _, by simp [dAdd, rowD, sizeLine_eq]⟩
    · exact ⟨.str "both", by simp [rowD], _, c3 _ _ _, by simp [dAdd, rowD, sizeLine_eq]⟩
    · exact ⟨.str "tag", by simp [rowD], _, c3 _ _ _, by simp [dAdd, rowD, sizeLine_eq]⟩
    · exact ⟨.str "tail", by simp [rowD], _, c2 _ _, by simp [dAdd, rowD, sizeLine_eq]⟩
    · exact ⟨.str "bag", by simp [rowD], _, c2 _ _, by simp [dAdd, rowD, sizeLine_eq]⟩
  obtain ⟨q, e1, r, e2, e3⟩ := e0
  simp [lb_law_0, h1, hw, m1, i1, h2, e1, e2, e3, r1, r2]
theorem law_true (ns : List Int) (hl : ns.length ≤ 63) : den_law [.scr ns] = .ok (.bl true) := by
  obtain ⟨z, hz⟩ := nth_ok ns 0 (by decide)
  have h1 : dAdd (.lst ((cutD ns none (some 40)).map D.int)) (.lst [.int (z + 1)]) = some (.lst ((cutD ns none (some 40) ++ [z + 1]).map D.int)) := by
    unfold dAdd
    simp only
    rw [if_pos]
    · simp
    · have := cutD_length ns none (some 40)
      rw [List.length_map, sizeLine_eq]; simp; omega
  have h2 : dLoop (tgName 1).f lb_law_0 (kills [1, 2, 3, 4]) ((cutD ns none (some 40) ++ [z + 1]).map D.int) [.val (.scr ns), .un, .un, .un, .un] = .nx [.val (.scr ns), .un, .un, .un, .un] := by
    refine dLoop_const D.int _ fun t _ => ?_
    obtain ⟨a, b, c, e⟩ := turn_ok (.val (.scr ns)) t
    exact ⟨_, _, rfl, .inl e, rfl⟩
  have hs : dSl (.scr ns) none (some 40) = some (.lst ((cutD ns none (some 40)).map D.int)) := rfl
  simp only [List.map_append, List.map_cons, List.map_nil] at h1 h2
  simp [den_law, dFn, body_law, env0, hz, hs, h1, h2]
end Lw

/-! g.walks -/
namespace Lw
open PySem PySem.Spec PyProof.Rows L2 Dn
def top (i : Nat) : Stmt := PySem.Challenge.pw_callbinds_k12_parameters.main.body.getD i (.Pass ⟨0, 0, 0, 0⟩)
abbrev s_is_name : Stmt := top 16
abbrev n_is_name : List Str := ["thing", "sign"]
abbrev p_is_name : List Str := ["thing"]
abbrev s_parameter_of : Stmt := top 25
abbrev n_parameter_of : List Str := ["told"]
abbrev p_parameter_of : List Str := ["told"]
abbrev s__law_nth : Stmt := top 27
abbrev n__law_nth : List Str := ["script", "k"]
abbrev p__law_nth : List Str := ["script", "k"]
abbrev s__law_called : Stmt := top 28
abbrev n__law_called : List Str := ["cell", "rest", "found", "k"]
abbrev p__law_called : List Str := ["cell"]
abbrev s__law_no_name : Stmt := top 29
abbrev n__law_no_name : List Str := ["cell", "good", "at", "odd", "signs"]
abbrev p__law_no_name : List Str := ["cell"]
abbrev s__law_told : Stmt := top 30
abbrev n__law_told : List Str := ["cell", "name", "way"]
abbrev p__law_told : List Str := ["cell"]
abbrev s__law_by_name : Stmt := top 31
abbrev n__law_by_name : List Str := ["row"]
abbrev p__law_by_name : List Str := ["row"]
abbrev s__law_made : Stmt := top 32
abbrev n__law_made : List Str := ["row", "way"]
abbrev p__law_made : List Str := ["row", "way"]
abbrev s__law_sorts : Stmt := top 33
abbrev n__law_sorts : List Str := ["one", "some"]
abbrev p__law_sorts : List Str := ["one"]
abbrev s__law_is : Stmt := top 34
abbrev n__law_is : List Str := ["one", "row", "sorts", "some", "word", "truth"]
abbrev p__law_is : List Str := ["one", "row"]
abbrev s__law_refused : Stmt := top 35
abbrev n__law_refused : List Str := ["row", "way", "good", "bad", "e"]
abbrev p__law_refused : List Str := ["row", "way"]
abbrev s_law : Stmt := top 36
abbrev n_law : List Str := ["script", "cell", "row", "way", "bad"]
abbrev p_law : List Str := ["script"]
abbrev s_Parameter_init : Stmt := inClass (top 18) 0
abbrev n_Parameter_init : List Str := ["self", "name"]
abbrev p_Parameter_init : List Str := ["self", "name"]
abbrev s_Parameter_free : Stmt := inClass (top 18) 3
abbrev n_Parameter_free : List Str := ["self"]
abbrev p_Parameter_free : List Str := ["self"]
abbrev s_Parameter_by_place : Stmt := inClass (top 18) 4
abbrev n_Parameter_by_place : List Str := ["self"]
abbrev p_Parameter_by_place : List Str := ["self"]
abbrev s_Parameter_by_name : Stmt := inClass (top 18) 5
abbrev n_Parameter_by_name : List Str := ["self"]
abbrev p_Parameter_by_name : List Str := ["self"]
abbrev s_Parameter_told : Stmt := inClass (top 18) 6
abbrev n_Parameter_told : List Str := ["self"]
abbrev p_Parameter_told : List Str := ["self"]
abbrev s_Single_init : Stmt := inClass (top 19) 0
abbrev n_Single_init : List Str := ["self", "name", "free"]
abbrev p_Single_init : List Str := ["self", "name", "free"]
abbrev s_Single_free : Stmt := inClass (top 19) 1
abbrev n_Single_free : List Str := ["self"]
abbrev p_Single_free : List Str := ["self"]
abbrev s_Single_told : Stmt := inClass (top 19) 2
abbrev n_Single_told : List Str := ["self"]
abbrev p_Single_told : List Str := ["self"]
abbrev s_Seat_word : Stmt := inClass (top 20) 0
abbrev n_Seat_word : List Str := ["self"]
abbrev p_Seat_word : List Str := ["self"]
abbrev s_Seat_by_place : Stmt := inClass (top 20) 1
abbrev n_Seat_by_place : List Str := ["self"]
abbrev p_Seat_by_place : List Str := ["self"]
abbrev s_Both_word : Stmt := inClass (top 21) 0
abbrev n_Both_word : List Str := ["self"]
abbrev p_Both_word : List Str := ["self"]
abbrev s_Both_by_place : Stmt := inClass (top 21) 1
abbrev n_Both_by_place : List Str := ["self"]
abbrev p_Both_by_place : List Str := ["self"]
abbrev s_Both_by_name : Stmt := inClass (top 21) 2
abbrev n_Both_by_name : List Str := ["self"]
abbrev p_Both_by_name : List Str := ["self"]
abbrev s_Tail_word : Stmt := inClass (top 22) 0
abbrev n_Tail_word : List Str := ["self"]
abbrev p_Tail_word : List Str := ["self"]
abbrev s_Tag_word : Stmt := inClass (top 23) 0
abbrev n_Tag_word : List Str := ["self"]
abbrev p_Tag_word : List Str := ["self"]
abbrev s_Tag_by_name : Stmt := inClass (top 23) 2
abbrev n_Tag_by_name : List Str := ["self"]
abbrev p_Tag_by_name : List Str := ["self"]
abbrev s_Bag_word : Stmt := inClass (top 24) 0
abbrev n_Bag_word : List Str := ["self"]
abbrev p_Bag_word : List Str := ["self"]
def flds : Nat → List Str
  | 1 => []
  | 13 => ["name", "loose"]
  | 14 => ["name", "loose"]
  | 15 => ["name"]
  | 16 => ["name", "loose"]
  | 17 => ["name"]
  | _ => []
theorem flds_small (c : Nat) : (flds c).length < 1000 := by unfold flds; split <;> decide
structure Tx (K : PySem.W.Frag) (mg : Str → Option Value) where
  C_CallError : Addr
  C_NoName : Addr
  C_TooMany : Addr
  C_BadOrder : Addr
  C_Twice : Addr
  C_NoChange : Addr
  C_NoDefault : Addr
  C_NoText : Addr
  C_NoRow : Addr
  C_Unknown : Addr
  C_Misfit : Addr
  C_Parameter : Addr
  C_Single : Addr
  C_Seat : Addr
  C_Both : Addr
  C_Tail : Addr
  C_Tag : Addr
  C_Bag : Addr
  a_is_name : Addr
  d_is_name : FuncData
  u_is_name : Fun K "is_name" "is_name" s_is_name a_is_name d_is_name
  b_is_name : Binds K d_is_name p_is_name []
  m_is_name : mg "is_name" = some (.ref a_is_name)
  a_parameter_of : Addr
  d_parameter_of : FuncData
  u_parameter_of : Fun K "parameter_of" "parameter_of" s_parameter_of a_parameter_of d_parameter_of
  b_parameter_of : Binds K d_parameter_of p_parameter_of []
  m_parameter_of : mg "parameter_of" = some (.ref a_parameter_of)
  a__law_nth : Addr
  d__law_nth : FuncData
  u__law_nth : Fun K "_law_nth" "_law_nth" s__law_nth a__law_nth d__law_nth
  b__law_nth : Binds K d__law_nth p__law_nth []
  m__law_nth : mg "_law_nth" = some (.ref a__law_nth)
  a__law_called : Addr
  d__law_called : FuncData
  u__law_called : Fun K "_law_called" "_law_called" s__law_called a__law_called d__law_called
  b__law_called : Binds K d__law_called p__law_called []
  m__law_called : mg "_law_called" = some (.ref a__law_called)
  a__law_no_name : Addr
  d__law_no_name : FuncData
  u__law_no_name : Fun K "_law_no_name" "_law_no_name" s__law_no_name a__law_no_name d__law_no_name
  b__law_no_name : Binds K d__law_no_name p__law_no_name []
  m__law_no_name : mg "_law_no_name" = some (.ref a__law_no_name)
  a__law_told : Addr
  d__law_told : FuncData
  u__law_told : Fun K "_law_told" "_law_told" s__law_told a__law_told d__law_told
  b__law_told : Binds K d__law_told p__law_told []
  m__law_told : mg "_law_told" = some (.ref a__law_told)
  a__law_by_name : Addr
  d__law_by_name : FuncData
  u__law_by_name : Fun K "_law_by_name" "_law_by_name" s__law_by_name a__law_by_name d__law_by_name
  b__law_by_name : Binds K d__law_by_name p__law_by_name []
  m__law_by_name : mg "_law_by_name" = some (.ref a__law_by_name)
  a__law_made : Addr
  d__law_made : FuncData
  u__law_made : Fun K "_law_made" "_law_made" s__law_made a__law_made d__law_made
  b__law_made : Binds K d__law_made p__law_made []
  m__law_made : mg "_law_made" = some (.ref a__law_made)
  a__law_sorts : Addr
  d__law_sorts : FuncData
  u__law_sorts : Fun K "_law_sorts" "_law_sorts" s__law_sorts a__law_sorts d__law_sorts
  b__law_sorts : Binds K d__law_sorts p__law_sorts []
  m__law_sorts : mg "_law_sorts" = some (.ref a__law_sorts)
  a__law_is : Addr
  d__law_is : FuncData
  u__law_is : Fun K "_law_is" "_law_is" s__law_is a__law_is d__law_is
  b__law_is : Binds K d__law_is p__law_is []
  m__law_is : mg "_law_is" = some (.ref a__law_is)
  a__law_refused : Addr
  d__law_refused : FuncData
  u__law_refused : Fun K "_law_refused" "_law_refused" s__law_refused a__law_refused d__law_refused
  b__law_refused : Binds K d__law_refused p__law_refused []
  m__law_refused : mg "_law_refused" = some (.ref a__law_refused)
  a_law : Addr
  d_law : FuncData
  u_law : Fun K "law" "law" s_law a_law d_law
  b_law : Binds K d_law p_law []
  m_law : mg "law" = some (.ref a_law)
  a_Parameter_init : Addr
  d_Parameter_init : FuncData
  u_Parameter_init : Fun K "__init__" "Parameter.__init__" s_Parameter_init a_Parameter_init d_Parameter_init
  b_Parameter_init : Binds K d_Parameter_init p_Parameter_init []
  a_Parameter_free : Addr
  d_Parameter_free : FuncData
  u_Parameter_free : Fun K "free" "Parameter.free" s_Parameter_free a_Parameter_free d_Parameter_free
  b_Parameter_free : Binds K d_Parameter_free p_Parameter_free []
  a_Parameter_by_place : Addr
  d_Parameter_by_place : FuncData
  u_Parameter_by_place : Fun K "by_place" "Parameter.by_place" s_Parameter_by_place a_Parameter_by_place d_Parameter_by_place
  b_Parameter_by_place : Binds K d_Parameter_by_place p_Parameter_by_place []
  a_Parameter_by_name : Addr
  d_Parameter_by_name : FuncData
  u_Parameter_by_name : Fun K "by_name" "Parameter.by_name" s_Parameter_by_name a_Parameter_by_name d_Parameter_by_name
  b_Parameter_by_name : Binds K d_Parameter_by_name p_Parameter_by_name []
  a_Parameter_told : Addr
  d_Parameter_told : FuncData
  u_Parameter_told : Fun K "told" "Parameter.told" s_Parameter_told a_Parameter_told d_Parameter_told
  b_Parameter_told : Binds K d_Parameter_told p_Parameter_told []
  a_Single_init : Addr
  d_Single_init : FuncData
  u_Single_init : FunD K "__init__" "Single.__init__" (defArgs s_Single_init) (defBody s_Single_init) (defScope s_Single_init) [.bl false] [] a_Single_init d_Single_init
  b_Single_init_2 : ∃ ds, Vals [.bl false] ds ∧ Binds K d_Single_init p_Single_init ds
  b_Single_init_3 : ∃ ds, Vals [] ds ∧ Binds K d_Single_init p_Single_init ds
  kb_Single_init_2 : KBn K d_Single_init p_Single_init 2 ["free"] (fun us ws => us ++ ws) (fun vs zs => vs ++ zs)
  a_Single_free : Addr
  d_Single_free : FuncData
  u_Single_free : Fun K "free" "Single.free" s_Single_free a_Single_free d_Single_free
  b_Single_free : Binds K d_Single_free p_Single_free []
  a_Single_told : Addr
  d_Single_told : FuncData
  u_Single_told : Fun K "told" "Single.told" s_Single_told a_Single_told d_Single_told
  b_Single_told : Binds K d_Single_told p_Single_told []
  a_Seat_word : Addr
  d_Seat_word : FuncData
  u_Seat_word : Fun K "word" "Seat.word" s_Seat_word a_Seat_word d_Seat_word
  b_Seat_word : Binds K d_Seat_word p_Seat_word []
  a_Seat_by_place : Addr
  d_Seat_by_place : FuncData
  u_Seat_by_place : Fun K "by_place" "Seat.by_place" s_Seat_by_place a_Seat_by_place d_Seat_by_place
  b_Seat_by_place : Binds K d_Seat_by_place p_Seat_by_place []
  a_Both_word : Addr
  d_Both_word : FuncData
  u_Both_word : Fun K "word" "Both.word" s_Both_word a_Both_word d_Both_word
  b_Both_word : Binds K d_Both_word p_Both_word []
  a_Both_by_place : Addr
  d_Both_by_place : FuncData
  u_Both_by_place : Fun K "by_place" "Both.by_place" s_Both_by_place a_Both_by_place d_Both_by_place
  b_Both_by_place : Binds K d_Both_by_place p_Both_by_place []
  a_Both_by_name : Addr
  d_Both_by_name : FuncData
  u_Both_by_name : Fun K "by_name" "Both.by_name" s_Both_by_name a_Both_by_name d_Both_by_name
  b_Both_by_name : Binds K d_Both_by_name p_Both_by_name []
  a_Tail_word : Addr
  d_Tail_word : FuncData
  u_Tail_word : Fun K "word" "Tail.word" s_Tail_word a_Tail_word d_Tail_word
  b_Tail_word : Binds K d_Tail_word p_Tail_word []
  a_Tag_word : Addr
  d_Tag_word : FuncData
  u_Tag_word : Fun K "word" "Tag.word" s_Tag_word a_Tag_word d_Tag_word
  b_Tag_word : Binds K d_Tag_word p_Tag_word []
  a_Tag_by_name : Addr
  d_Tag_by_name : FuncData
  u_Tag_by_name : Fun K "by_name" "Tag.by_name" s_Tag_by_name a_Tag_by_name d_Tag_by_name
  b_Tag_by_name : Binds K d_Tag_by_name p_Tag_by_name []
  a_Bag_word : Addr
  d_Bag_word : FuncData
  u_Bag_word : Fun K "word" "Bag.word" s_Bag_word a_Bag_word d_Bag_word
  b_Bag_word : Binds K d_Bag_word p_Bag_word []
  z_ValueError : mg "ValueError" = none
  z_all : mg "all" = none
  z_bool : mg "bool" = none
  z_int : mg "int" = none
  z_isinstance : mg "isinstance" = none
  z_len : mg "len" = none
  z_list : mg "list" = none
  z_range : mg "range" = none
  z_str : mg "str" = none
  z_tuple : mg "tuple" = none
  t_LONGEST : Tok
  g_LONGEST : mg "LONGEST" = some (.int 8 t_LONGEST)
  t_LETTERS : Tok
  g_LETTERS : mg "LETTERS" = some (.str "abcdefghijklmnopqrstuvwxyz" t_LETTERS)
  m_CallError : mg "CallError" = some (.ref C_CallError)
  eo_NoName : ExO K C_NoName
  ko_NoName_CallError : PySem.W.kitOne K (.ref C_NoName) (.ref C_CallError) = some true
  ko_NoName_ValueError : PySem.W.kitOne K (.ref C_NoName) (.type "ValueError") = some true
  m_BadOrder : mg "BadOrder" = some (.ref C_BadOrder)
  m_Misfit : mg "Misfit" = some (.ref C_Misfit)
  m_NoChange : mg "NoChange" = some (.ref C_NoChange)
  m_NoDefault : mg "NoDefault" = some (.ref C_NoDefault)
  m_NoRow : mg "NoRow" = some (.ref C_NoRow)
  m_NoText : mg "NoText" = some (.ref C_NoText)
  m_TooMany : mg "TooMany" = some (.ref C_TooMany)
  m_Twice : mg "Twice" = some (.ref C_Twice)
  m_Unknown : mg "Unknown" = some (.ref C_Unknown)
  ko_NoName_Unknown : PySem.W.kitOne K (.ref C_NoName) (.ref C_Unknown) = some false
  ko_NoName_Twice : PySem.W.kitOne K (.ref C_NoName) (.ref C_Twice) = some false
  ko_NoName_TooMany : PySem.W.kitOne K (.ref C_NoName) (.ref C_TooMany) = some false
  ko_NoName_NoText : PySem.W.kitOne K (.ref C_NoName) (.ref C_NoText) = some false
  ko_NoName_NoRow : PySem.W.kitOne K (.ref C_NoName) (.ref C_NoRow) = some false
  ko_NoName_NoDefault : PySem.W.kitOne K (.ref C_NoName) (.ref C_NoDefault) = some false
  ko_NoName_NoChange : PySem.W.kitOne K (.ref C_NoName) (.ref C_NoChange) = some false
  ko_NoName_Misfit : PySem.W.kitOne K (.ref C_NoName) (.ref C_Misfit) = some false
  ko_NoName_BadOrder : PySem.W.kitOne K (.ref C_NoName) (.ref C_BadOrder) = some false
  xm_NoName_NoName : PySem.W.exmOne K (.ref C_NoName) (.ref C_NoName) = some true
  m_NoName : mg "NoName" = some (.ref C_NoName)
  m_Tail : mg "Tail" = some (.ref C_Tail)
  mk_Tail : Mk K C_Tail a_Parameter_init
  m_Bag : mg "Bag" = some (.ref C_Bag)
  mk_Bag : Mk K C_Bag a_Parameter_init
  m_Seat : mg "Seat" = some (.ref C_Seat)
  mk_Seat : Mk K C_Seat a_Single_init
  m_Both : mg "Both" = some (.ref C_Both)
  mk_Both : Mk K C_Both a_Single_init
  m_Tag : mg "Tag" = some (.ref C_Tag)
  mk_Tag : Mk K C_Tag a_Single_init
  m_Parameter : mg "Parameter" = some (.ref C_Parameter)
  ci_Parameter : CI K C_Parameter (.type "type") a_Parameter_init
  cl_Seat : Cls K C_Seat
  na_Seat_loose : NoAttr K C_Seat "loose"
  cl_Both : Cls K C_Both
  na_Both_loose : NoAttr K C_Both "loose"
  cl_Tag : Cls K C_Tag
  na_Tag_loose : NoAttr K C_Tag "loose"
  xc_NoName : PySem.W.excIn K C_NoName veB "ValueError.__new__" = true
  kp_NoName : PySem.W.keepIn K (.ref C_NoName) = true
  sb_NoName : PySem.W.subIn K (.ref C_NoName) (.type "BaseException") = some true
  ty_NoName : PySem.W.typeIn K (.ref C_NoName) = some (.type "type")
  na_Seat_name : NoAttr K C_Seat "name"
  na_Both_name : NoAttr K C_Both "name"
  cl_Tail : Cls K C_Tail
  na_Tail_name : NoAttr K C_Tail "name"
  na_Tag_name : NoAttr K C_Tag "name"
  cl_Bag : Cls K C_Bag
  na_Bag_name : NoAttr K C_Bag "name"
  me_Seat_told : Meth K C_Seat "told" a_Single_told
  me_Both_told : Meth K C_Both "told" a_Single_told
  me_Tail_told : Meth K C_Tail "told" a_Parameter_told
  me_Tag_told : Meth K C_Tag "told" a_Single_told
  me_Bag_told : Meth K C_Bag "told" a_Parameter_told
  me_Seat_free : Meth K C_Seat "free" a_Single_free
  me_Both_free : Meth K C_Both "free" a_Single_free
  me_Tail_free : Meth K C_Tail "free" a_Parameter_free
  me_Tag_free : Meth K C_Tag "free" a_Single_free
  me_Bag_free : Meth K C_Bag "free" a_Parameter_free
  me_Seat_by_place : Meth K C_Seat "by_place" a_Seat_by_place
  me_Both_by_place : Meth K C_Both "by_place" a_Both_by_place
  me_Tail_by_place : Meth K C_Tail "by_place" a_Parameter_by_place
  me_Tag_by_place : Meth K C_Tag "by_place" a_Parameter_by_place
  me_Bag_by_place : Meth K C_Bag "by_place" a_Parameter_by_place
  me_Seat_by_name : Meth K C_Seat "by_name" a_Parameter_by_name
  me_Both_by_name : Meth K C_Both "by_name" a_Both_by_name
  me_Tail_by_name : Meth K C_Tail "by_name" a_Parameter_by_name
  me_Tag_by_name : Meth K C_Tag "by_name" a_Tag_by_name
  me_Bag_by_name : Meth K C_Bag "by_name" a_Parameter_by_name
  kc_Seat : PySem.W.findIn K (.ref C_Seat) "__class__" = some (some (.builtin "object.__class__"))
  mo_Seat : PySem.W.mroIn K C_Seat (.type "object") = some true
  ko_Seat_Seat : PySem.W.kitOne K (.ref C_Seat) (.ref C_Seat) = some true
  kc_Both : PySem.W.findIn K (.ref C_Both) "__class__" = some (some (.builtin "object.__class__"))
  mo_Both : PySem.W.mroIn K C_Both (.type "object") = some true
  ko_Both_Seat : PySem.W.kitOne K (.ref C_Both) (.ref C_Seat) = some false
  kc_Tail : PySem.W.findIn K (.ref C_Tail) "__class__" = some (some (.builtin "object.__class__"))
  mo_Tail : PySem.W.mroIn K C_Tail (.type "object") = some true
  ko_Tail_Seat : PySem.W.kitOne K (.ref C_Tail) (.ref C_Seat) = some false
  kc_Tag : PySem.W.findIn K (.ref C_Tag) "__class__" = some (some (.builtin "object.__class__"))
  mo_Tag : PySem.W.mroIn K C_Tag (.type "object") = some true
  ko_Tag_Seat : PySem.W.kitOne K (.ref C_Tag) (.ref C_Seat) = some false
  kc_Bag : PySem.W.findIn K (.ref C_Bag) "__class__" = some (some (.builtin "object.__class__"))
  mo_Bag : PySem.W.mroIn K C_Bag (.type "object") = some true
  ko_Bag_Seat : PySem.W.kitOne K (.ref C_Bag) (.ref C_Seat) = some false
  oc_n : PySem.W.specialIn K (.builtin "object.__class__") "__get__" = some (some (.builtin "getset_descriptor.__get__"))
  oc_t : PySem.W.takesIn K (.builtin "object.__class__") = some true
  ko_Seat_Both : PySem.W.kitOne K (.ref C_Seat) (.ref C_Both) = some false
  ko_Both_Both : PySem.W.kitOne K (.ref C_Both) (.ref C_Both) = some true
  ko_Tail_Both : PySem.W.kitOne K (.ref C_Tail) (.ref C_Both) = some false
  ko_Tag_Both : PySem.W.kitOne K (.ref C_Tag) (.ref C_Both) = some false
  ko_Bag_Both : PySem.W.kitOne K (.ref C_Bag) (.ref C_Both) = some false
  ko_Seat_Tail : PySem.W.kitOne K (.ref C_Seat) (.ref C_Tail) = some false
  ko_Both_Tail : PySem.W.kitOne K (.ref C_Both) (.ref C_Tail) = some false
  ko_Tail_Tail : PySem.W.kitOne K (.ref C_Tail) (.ref C_Tail) = some true
  ko_Tag_Tail : PySem.W.kitOne K (.ref C_Tag) (.ref C_Tail) = some false
  ko_Bag_Tail : PySem.W.kitOne K (.ref C_Bag) (.ref C_Tail) = some false
  ko_Seat_Tag : PySem.W.kitOne K (.ref C_Seat) (.ref C_Tag) = some false
  ko_Both_Tag : PySem.W.kitOne K (.ref C_Both) (.ref C_Tag) = some false
  ko_Tail_Tag : PySem.W.kitOne K (.ref C_Tail) (.ref C_Tag) = some false
  ko_Tag_Tag : PySem.W.kitOne K (.ref C_Tag) (.ref C_Tag) = some true
  ko_Bag_Tag : PySem.W.kitOne K (.ref C_Bag) (.ref C_Tag) = some false
  ko_Seat_Bag : PySem.W.kitOne K (.ref C_Seat) (.ref C_Bag) = some false
  ko_Both_Bag : PySem.W.kitOne K (.ref C_Both) (.ref C_Bag) = some false
  ko_Tail_Bag : PySem.W.kitOne K (.ref C_Tail) (.ref C_Bag) = some false
  ko_Tag_Bag : PySem.W.kitOne K (.ref C_Tag) (.ref C_Bag) = some false
  ko_Bag_Bag : PySem.W.kitOne K (.ref C_Bag) (.ref C_Bag) = some true
  ko_Seat_Parameter : PySem.W.kitOne K (.ref C_Seat) (.ref C_Parameter) = some true
  ko_Both_Parameter : PySem.W.kitOne K (.ref C_Both) (.ref C_Parameter) = some true
  ko_Tail_Parameter : PySem.W.kitOne K (.ref C_Tail) (.ref C_Parameter) = some true
  ko_Tag_Parameter : PySem.W.kitOne K (.ref C_Tag) (.ref C_Parameter) = some true
  ko_Bag_Parameter : PySem.W.kitOne K (.ref C_Bag) (.ref C_Parameter) = some true
  me_Seat_word : Meth K C_Seat "word" a_Seat_word
  me_Both_word : Meth K C_Both "word" a_Both_word
  me_Tail_word : Meth K C_Tail "word" a_Tail_word
  me_Tag_word : Meth K C_Tag "word" a_Tag_word
  me_Bag_word : Meth K C_Bag "word" a_Bag_word
section
variable {P : Program} {w : World} {K : PySem.W.Frag} {mg : Str → Option Value} {base : Heap}
def Tx.cls (T : Tx K mg) : Nat → Addr
  | 0 => T.C_CallError
  | 1 => T.C_NoName
  | 2 => T.C_TooMany
  | 3 => T.C_BadOrder
  | 4 => T.C_Twice
  | 5 => T.C_NoChange
  | 6 => T.C_NoDefault
  | 7 => T.C_NoText
  | 8 => T.C_NoRow
  | 9 => T.C_Unknown
  | 10 => T.C_Misfit
  | 11 => T.C_Parameter
  | 12 => T.C_Single
  | 13 => T.C_Seat
  | 14 => T.C_Both
  | 15 => T.C_Tail
  | 16 => T.C_Tag
  | 17 => T.C_Bag
  | _ => 0
def Tx.Γ (T : Tx K mg) : Gm := ⟨K, T.cls, flds, none⟩
theorem sc_is_name : FnScope n_is_name p_is_name (defScope s_is_name) := ⟨rfl, rfl, rfl, by decide +kernel, rfl, by decide +kernel, by decide +kernel⟩
theorem ok_is_name (T : Tx K mg) : FnOk P w K mg base (L2.CX P w) 2 T.a_is_name T.d_is_name p_is_name (spD T.Γ 1 den_is_name) := by
  refine fn_ok (Γ := T.Γ) (k := 1) T.u_is_name sc_is_name fun cdv A outer s H E hr => ?_
  exact (ss_cons (s_if (PW.pt (t_or (t_not (t_tru (by rfl) (w_e (e_isB (b := "str") (by rfl) (by rfl) T.z_isinstance (w_peek (pv 0)) (by rfl) T.z_str (by decide +kernel))))) (t_or (t_lt (w_e (e_len (by rfl) (by rfl) T.z_len (aw_cons (w_peek (pv 0)) aw_nil))) (w_e e_int)) (t_or1 (t_gt (w_e (e_len (by rfl) (by rfl) T.z_len (aw_cons (w_peek (pv 0)) aw_nil))) (w_e (e_gint (by rfl) T.g_LONGEST)))))))
 (ss_one (s_ret e_bl))
 ss_nil)
 (ss_one (s_ret (e_all (by rfl) (by rfl) (by rfl) T.z_all (aw_cons (w_n (n_comp (by rfl) sc_is_name.nd (i_str (e_var (pv 0))) (blkOk_by (own := [("sign", 1)]) (N := n_is_name) (sc := defScope s_is_name) (by decide +kernel)) (by decide) (fun _ _ _ _ _ => (g_name (pg_name (i := 1) sc_is_name.nd (by rfl) (by first | exact Or.inl rfl | exact Or.inr rfl)))) (fun _ _ _ _ _ => q_nil) (fun _ _ _ _ _ => (e_in (by rfl) hr.units (w_peek (pv 1)) (w_e (e_gstr (by rfl) T.g_LETTERS)))))) aw_nil)))))
theorem sc__law_nth : FnScope n__law_nth p__law_nth (defScope s__law_nth) := ⟨rfl, rfl, rfl, by decide +kernel, rfl, by decide +kernel, by decide +kernel⟩
theorem ok__law_nth (T : Tx K mg) : FnOk P w K mg base (L2.CX P w) 2 T.a__law_nth T.d__law_nth p__law_nth (spD T.Γ 2 den__law_nth) := by
  refine fn_ok (Γ := T.Γ) (k := 1) T.u__law_nth sc__law_nth fun cdv A outer s H E hr => ?_
  exact (ss_one (s_ret (e_if (t_lt (w_peek (pv 1)) (w_e (e_len (by rfl) (by rfl) T.z_len (aw_cons (w_peek (pv 0)) aw_nil)))) (e_ix (by rfl) (w_peek (pv 0)) (w_peek (pv 1))) e_int)))
theorem sc__law_called : FnScope n__law_called p__law_called (defScope s__law_called) := ⟨rfl, rfl, rfl, by decide +kernel, rfl, by decide +kernel, by decide +kernel⟩
theorem ok__law_called (T : Tx K mg) : FnOk P w K mg base (L2.CX P w) 2 T.a__law_called T.d__law_called p__law_called (spD T.Γ 1 den__law_called) := by
  refine fn_ok (Γ := T.Γ) (k := 1) T.u__law_called sc__law_called fun cdv A outer s H E hr => ?_
  exact (ss_cons (s_if (t_eq (by rfl) hr.units (w_e (e_mod (w_peek (pv 0)) (w_e e_int))) (w_e e_int))
 (ss_one (s_ret (e_ix (by rfl) (w_n (n_lst (a_cons (e_str (by decide +kernel)) (a_cons (e_str (by decide +kernel)) (a_cons (e_str (by decide +kernel)) (a_cons (e_str (by decide +kernel)) (a_cons (e_str (by decide +kernel)) (a_cons (e_str (by decide +kernel)) (a_cons (e_str (by decide +kernel)) (a_cons (e_str (by decide +kernel)) (a_cons (e_str (by decide +kernel)) (a_cons (e_str (by decide +kernel)) a_nil)))))))))))) (w_e (e_mod (w_e (e_fdiv (w_peek (pv 0)) (w_e e_int))) (w_e e_int))))))
 ss_nil)
 (ss_cons (s_set (fun _ h => ps_set (i := 1) sc__law_called.nd (by rfl) (by first | exact Or.inl rfl | exact Or.inr rfl) h) (e_fdiv (w_peek (pv 0)) (w_e e_int)))
 (ss_cons (s_set (fun _ h => ps_set (i := 2) sc__law_called.nd (by rfl) (by first | exact Or.inl rfl | exact Or.inr rfl) h) (e_str (by decide +kernel)))
 (ss_cons (s_for (passes_of (by rfl)) (by rfl) (i_rng1 (by rfl) T.z_range (a_cons (e_add (by rfl) (w_e e_int) (w_e (e_mod (w_e (e_fdiv (w_peek (pv 0)) (w_e e_int))) (w_e e_int)))) a_nil)) (g_name (pg_name (i := 3) sc__law_called.nd (by rfl) (by first | exact Or.inl rfl | exact Or.inr rfl))) (ss_cons (s_set (fun _ h => ps_set (i := 2) sc__law_called.nd (by rfl) (by first | exact Or.inl rfl | exact Or.inr rfl) h) (e_add (by rfl) (w_e (e_ix (by rfl) (w_e (e_str (by decide +kernel))) (w_e (e_mod (w_peek (pv 1)) (w_e e_int))))) (w_peek (pv 2))))
 (ss_one (s_set (fun _ h => ps_set (i := 1) sc__law_called.nd (by rfl) (by first | exact Or.inl rfl | exact Or.inr rfl) h) (e_fdiv (w_peek (pv 1)) (w_e e_int))))) (Ghost.kills [3]))
 (ss_one (s_ret (e_var (pv 2))))))))
theorem sc__law_sorts : FnScope n__law_sorts p__law_sorts (defScope s__law_sorts) := ⟨rfl, rfl, rfl, by decide +kernel, rfl, by decide +kernel, by decide +kernel⟩
theorem ok__law_sorts (T : Tx K mg) : FnOk P w K mg base (L2.CX P w) 2 T.a__law_sorts T.d__law_sorts p__law_sorts (spD T.Γ 1 den__law_sorts) := by
  refine fn_ok (Γ := T.Γ) (k := 1) T.u__law_sorts sc__law_sorts fun cdv A outer s H E hr => ?_
  exact (ss_cons (s_set (fun _ h => ps_set (i := 1) sc__law_sorts.nd (by rfl) (by first | exact Or.inl rfl | exact Or.inr rfl) h) (e_lst (a_cons (e_isO (C := T.C_Seat) (tab := [(13, true), (14, false), (15, false), (16, false), (17, false)]) (by rfl) (by rfl) T.z_isinstance (w_peek (pv 0)) (by rfl) T.m_Seat (fa_cons ⟨T.cl_Seat, T.kc_Seat, T.oc_n, T.oc_t, T.mo_Seat, T.ko_Seat_Seat⟩ (fa_cons ⟨T.cl_Both, T.kc_Both, T.oc_n, T.oc_t, T.mo_Both, T.ko_Both_Seat⟩ (fa_cons ⟨T.cl_Tail, T.kc_Tail, T.oc_n, T.oc_t, T.mo_Tail, T.ko_Tail_Seat⟩ (fa_cons ⟨T.cl_Tag, T.kc_Tag, T.oc_n, T.oc_t, T.mo_Tag, T.ko_Tag_Seat⟩ (fa_cons ⟨T.cl_Bag, T.kc_Bag, T.oc_n, T.oc_t, T.mo_Bag, T.ko_Bag_Seat⟩ fa_nil)))))) (a_cons (e_isO (C := T.C_Both) (tab := [(13, false), (14, true), (15, false), (16, false), (17, false)]) (by rfl) (by rfl) T.z_isinstance (w_peek (pv 0)) (by rfl) T.m_Both (fa_cons ⟨T.cl_Seat, T.kc_Seat, T.oc_n, T.oc_t, T.mo_Seat, T.ko_Seat_Both⟩ (fa_cons ⟨T.cl_Both, T.kc_Both, T.oc_n, T.oc_t, T.mo_Both, T.ko_Both_Both⟩ (fa_cons ⟨T.cl_Tail, T.kc_Tail, T.oc_n, T.oc_t, T.mo_Tail, T.ko_Tail_Both⟩ (fa_cons ⟨T.cl_Tag, T.kc_Tag, T.oc_n, T.oc_t, T.mo_Tag, T.ko_Tag_Both⟩ (fa_cons ⟨T.cl_Bag, T.kc_Bag, T.oc_n, T.oc_t, T.mo_Bag, T.ko_Bag_Both⟩ fa_nil)))))) (a_cons (e_isO (C := T.C_Tail) (tab := [(13, false), (14, false), (15, true), (16, false), (17, false)]) (by rfl) (by rfl) T.z_isinstance (w_peek (pv 0)) (by rfl) T.m_Tail (fa_cons ⟨T.cl_Seat, T.kc_Seat, T.oc_n, T.oc_t, T.mo_Seat, T.ko_Seat_Tail⟩ (fa_cons ⟨T.cl_Both, T.kc_Both, T.oc_n, T.oc_t, T.mo_Both, T.ko_Both_Tail⟩ (fa_cons ⟨T.cl_Tail, T.kc_Tail, T.oc_n, T.oc_t, T.mo_Tail, T.ko_Tail_Tail⟩ (fa_cons ⟨T.cl_Tag, T.kc_Tag, T.oc_n, T.oc_t, T.mo_Tag, T.ko_Tag_Tail⟩ (fa_cons ⟨T.cl_Bag, T.kc_Bag, T.oc_n, T.oc_t, T.mo_Bag, T.ko_Bag_Tail⟩ fa_nil)))))) (a_cons (e_isO (C := T.C_Tag) (tab := [(13, false), (14, false), (15, false), (16, true), (17, false)]) (by rfl) (by rfl) T.z_isinstance (w_peek (pv 0)) (by rfl) T.m_Tag (fa_cons ⟨T.cl_Seat, T.kc_Seat, T.oc_n, T.oc_t, T.mo_Seat, T.ko_Seat_Tag⟩ (fa_cons ⟨T.cl_Both, T.kc_Both, T.oc_n, T.oc_t, T.mo_Both, T.ko_Both_Tag⟩ (fa_cons ⟨T.cl_Tail, T.kc_Tail, T.oc_n, T.oc_t, T.mo_Tail, T.ko_Tail_Tag⟩ (fa_cons ⟨T.cl_Tag, T.kc_Tag, T.oc_n, T.oc_t, T.mo_Tag, T.ko_Tag_Tag⟩ (fa_cons ⟨T.cl_Bag, T.kc_Bag, T.oc_n, T.oc_t, T.mo_Bag, T.ko_Bag_Tag⟩ fa_nil)))))) a_nil))))))
 (ss_one (s_ret (e_add (by rfl) (w_peek (pv 1)) (w_n (n_lst (a_cons (e_isO (C := T.C_Bag) (tab := [(13, false), (14, false), (15, false), (16, false), (17, true)]) (by rfl) (by rfl) T.z_isinstance (w_peek (pv 0)) (by rfl) T.m_Bag (fa_cons ⟨T.cl_Seat, T.kc_Seat, T.oc_n, T.oc_t, T.mo_Seat, T.ko_Seat_Bag⟩ (fa_cons ⟨T.cl_Both, T.kc_Both, T.oc_n, T.oc_t, T.mo_Both, T.ko_Both_Bag⟩ (fa_cons ⟨T.cl_Tail, T.kc_Tail, T.oc_n, T.oc_t, T.mo_Tail, T.ko_Tail_Bag⟩ (fa_cons ⟨T.cl_Tag, T.kc_Tag, T.oc_n, T.oc_t, T.mo_Tag, T.ko_Tag_Bag⟩ (fa_cons ⟨T.cl_Bag, T.kc_Bag, T.oc_n, T.oc_t, T.mo_Bag, T.ko_Bag_Bag⟩ fa_nil)))))) (a_cons (e_isO (C := T.C_Parameter) (tab := [(13, true), (14, true), (15, true), (16, true), (17, true)]) (by rfl) (by rfl) T.z_isinstance (w_peek (pv 0)) (by rfl) T.m_Parameter (fa_cons ⟨T.cl_Seat, T.kc_Seat, T.oc_n, T.oc_t, T.mo_Seat, T.ko_Seat_Parameter⟩ (fa_cons ⟨T.cl_Both, T.kc_Both, T.oc_n, T.oc_t, T.mo_Both, T.ko_Both_Parameter⟩ (fa_cons ⟨T.cl_Tail, T.kc_Tail, T.oc_n, T.oc_t, T.mo_Tail, T.ko_Tail_Parameter⟩ (fa_cons ⟨T.cl_Tag, T.kc_Tag, T.oc_n, T.oc_t, T.mo_Tag, T.ko_Tag_Parameter⟩ (fa_cons ⟨T.cl_Bag, T.kc_Bag, T.oc_n, T.oc_t, T.mo_Bag, T.ko_Bag_Parameter⟩ fa_nil)))))) a_nil))))))))
theorem sc_Parameter_free : FnScope n_Parameter_free p_Parameter_free (defScope s_Parameter_free) := ⟨rfl, rfl, rfl, by decide +kernel, rfl, by decide +kernel, by decide +kernel⟩
theorem ok_Parameter_free (T : Tx K mg) : FnOk P w K mg base (L2.CX P w) 2 T.a_Parameter_free T.d_Parameter_free p_Parameter_free (spD T.Γ 1 den_Parameter_free) := by
  refine fn_ok (Γ := T.Γ) (k := 1) T.u_Parameter_free sc_Parameter_free fun cdv A outer s H E hr => ?_
  exact (ss_one (s_ret e_bl))
theorem sc_Parameter_by_place : FnScope n_Parameter_by_place p_Parameter_by_place (defScope s_Parameter_by_place) := ⟨rfl, rfl, rfl, by decide +kernel, rfl, by decide +kernel, by decide +kernel⟩
theorem ok_Parameter_by_place (T : Tx K mg) : FnOk P w K mg base (L2.CX P w) 2 T.a_Parameter_by_place T.d_Parameter_by_place p_Parameter_by_place (spD T.Γ 1 den_Parameter_by_place) := by
  refine fn_ok (Γ := T.Γ) (k := 1) T.u_Parameter_by_place sc_Parameter_by_place fun cdv A outer s H E hr => ?_
  exact (ss_one (s_ret e_bl))
theorem sc_Parameter_by_name : FnScope n_Parameter_by_name p_Parameter_by_name (defScope s_Parameter_by_name) := ⟨rfl, rfl, rfl, by decide +kernel, rfl, by decide +kernel, by decide +kernel⟩
theorem ok_Parameter_by_name (T : Tx K mg) : FnOk P w K mg base (L2.CX P w) 2 T.a_Parameter_by_name T.d_Parameter_by_name p_Parameter_by_name (spD T.Γ 1 den_Parameter_by_name) := by
  refine fn_ok (Γ := T.Γ) (k := 1) T.u_Parameter_by_name sc_Parameter_by_name fun cdv A outer s H E hr => ?_
  exact (ss_one (s_ret e_bl))
theorem sc_Single_free : FnScope n_Single_free p_Single_free (defScope s_Single_free) := ⟨rfl, rfl, rfl, by decide +kernel, rfl, by decide +kernel, by decide +kernel⟩
theorem ok_Single_free (T : Tx K mg) : FnOk P w K mg base (L2.CX P w) 2 T.a_Single_free T.d_Single_free p_Single_free (spD T.Γ 1 den_Single_free) := by
  refine fn_ok (Γ := T.Γ) (k := 1) T.u_Single_free sc_Single_free fun cdv A outer s H E hr => ?_
  exact (ss_one (s_ret (e_fld (tab := [(13, 1), (14, 1), (16, 1)]) (by rfl) (fa_cons ⟨T.cl_Seat, T.na_Seat_loose, by rfl, flds_small 13⟩ (fa_cons ⟨T.cl_Both, T.na_Both_loose, by rfl, flds_small 14⟩ (fa_cons ⟨T.cl_Tag, T.na_Tag_loose, by rfl, flds_small 16⟩ fa_nil))) (w_peek (pv 0)))))
theorem sc_Seat_word : FnScope n_Seat_word p_Seat_word (defScope s_Seat_word) := ⟨rfl, rfl, rfl, by decide +kernel, rfl, by decide +kernel, by decide +kernel⟩
theorem ok_Seat_word (T : Tx K mg) : FnOk P w K mg base (L2.CX P w) 2 T.a_Seat_word T.d_Seat_word p_Seat_word (spD T.Γ 1 den_Seat_word) := by
  refine fn_ok (Γ := T.Γ) (k := 1) T.u_Seat_word sc_Seat_word fun cdv A outer s H E hr => ?_
  exact (ss_one (s_ret (e_str (by decide +kernel))))
theorem sc_Seat_by_place : FnScope n_Seat_by_place p_Seat_by_place (defScope s_Seat_by_place) := ⟨rfl, rfl, rfl, by decide +kernel, rfl, by decide +kernel, by decide +kernel⟩
theorem ok_Seat_by_place (T : Tx K mg) : FnOk P w K mg base (L2.CX P w) 2 T.a_Seat_by_place T.d_Seat_by_place p_Seat_by_place (spD T.Γ 1 den_Seat_by_place) := by
  refine fn_ok (Γ := T.Γ) (k := 1) T.u_Seat_by_place sc_Seat_by_place fun cdv A outer s H E hr => ?_
  exact (ss_one (s_ret e_bl))
theorem sc_Both_word : FnScope n_Both_word p_Both_word (defScope s_Both_word) := ⟨rfl, rfl, rfl, by decide +kernel, rfl, by decide +kernel, by decide +kernel⟩
theorem ok_Both_word (T : Tx K mg) : FnOk P w K mg base (L2.CX P w) 2 T.a_Both_word T.d_Both_word p_Both_word (spD T.Γ 1 den_Both_word) := by
  refine fn_ok (Γ := T.Γ) (k := 1) T.u_Both_word sc_Both_word fun cdv A outer s H E hr => ?_
  exact (ss_one (s_ret (e_str (by decide +kernel))))
theorem sc_Both_by_place : FnScope n_Both_by_place p_Both_by_place (defScope s_Both_by_place) := ⟨rfl, rfl, rfl, by decide +kernel, rfl, by decide +kernel, by decide +kernel⟩
theorem ok_Both_by_place (T : Tx K mg) : FnOk P w K mg base (L2.CX P w) 2 T.a_Both_by_place T.d_Both_by_place p_Both_by_place (spD T.Γ 1 den_Both_by_place) := by
  refine fn_ok (Γ := T.Γ) (k := 1) T.u_Both_by_place sc_Both_by_place fun cdv A outer s H E hr => ?_
  exact (ss_one (s_ret e_bl))
theorem sc_Both_by_name : FnScope n_Both_by_name p_Both_by_name (defScope s_Both_by_name) := ⟨rfl, rfl, rfl, by decide +kernel, rfl, by decide +kernel, by decide +kernel⟩
theorem ok_Both_by_name (T : Tx K mg) : FnOk P w K mg base (L2.CX P w) 2 T.a_Both_by_name T.d_Both_by_name p_Both_by_name (spD T.Γ 1 den_Both_by_name) := by
  refine fn_ok (Γ := T.Γ) (k := 1) T.u_Both_by_name sc_Both_by_name fun cdv A outer s H E hr => ?_
  exact (ss_one (s_ret e_bl))
theorem sc_Tail_word : FnScope n_Tail_word p_Tail_word (defScope s_Tail_word) := ⟨rfl, rfl, rfl, by decide +kernel, rfl, by decide +kernel, by decide +kernel⟩
theorem ok_Tail_word (T : Tx K mg) : FnOk P w K mg base (L2.CX P w) 2 T.a_Tail_word T.d_Tail_word p_Tail_word (spD T.Γ 1 den_Tail_word) := by
  refine fn_ok (Γ := T.Γ) (k := 1) T.u_Tail_word sc_Tail_word fun cdv A outer s H E hr => ?_
  exact (ss_one (s_ret (e_str (by decide +kernel))))
theorem sc_Tag_word : FnScope n_Tag_word p_Tag_word (defScope s_Tag_word) := ⟨rfl, rfl, rfl, by decide +kernel, rfl, by decide +kernel, by decide +kernel⟩
theorem ok_Tag_word (T : Tx K mg) : FnOk P w K mg base (L2.CX P w) 2 T.a_Tag_word T.d_Tag_word p_Tag_word (spD T.Γ 1 den_Tag_word) := by
  refine fn_ok (Γ := T.Γ) (k := 1) T.u_Tag_word sc_Tag_word fun cdv A outer s H E hr => ?_
  exact (ss_one (s_ret (e_str (by decide +kernel))))
theorem sc_Tag_by_name : FnScope n_Tag_by_name p_Tag_by_name (defScope s_Tag_by_name) := ⟨rfl, rfl, rfl, by decide +kernel, rfl, by decide +kernel, by decide +kernel⟩
theorem ok_Tag_by_name (T : Tx K mg) : FnOk P w K mg base (L2.CX P w) 2 T.a_Tag_by_name T.d_Tag_by_name p_Tag_by_name (spD T.Γ 1 den_Tag_by_name) := by
  refine fn_ok (Γ := T.Γ) (k := 1) T.u_Tag_by_name sc_Tag_by_name fun cdv A outer s H E hr => ?_
  exact (ss_one (s_ret e_bl))
theorem sc_Bag_word : FnScope n_Bag_word p_Bag_word (defScope s_Bag_word) := ⟨rfl, rfl, rfl, by decide +kernel, rfl, by decide +kernel, by decide +kernel⟩
theorem ok_Bag_word (T : Tx K mg) : FnOk P w K mg base (L2.CX P w) 2 T.a_Bag_word T.d_Bag_word p_Bag_word (spD T.Γ 1 den_Bag_word) := by
  refine fn_ok (Γ := T.Γ) (k := 1) T.u_Bag_word sc_Bag_word fun cdv A outer s H E hr => ?_
  exact (ss_one (s_ret (e_str (by decide +kernel))))
theorem sc__law_no_name : FnScope n__law_no_name p__law_no_name (defScope s__law_no_name) := ⟨rfl, rfl, rfl, by decide +kernel, rfl, by decide +kernel, by decide +kernel⟩
theorem ok__law_no_name (T : Tx K mg) : FnOk P w K mg base (L2.CX P w) 4 T.a__law_no_name T.d__law_no_name p__law_no_name (spD T.Γ 1 den__law_no_name) := by
  refine fn_ok (Γ := T.Γ) (k := 3) T.u__law_no_name sc__law_no_name fun cdv A outer s H E hr => ?_
  exact (ss_cons (s_set (fun _ h => ps_set (i := 1) sc__law_no_name.nd (by rfl) (by first | exact Or.inl rfl | exact Or.inr rfl) h) (e_call (k := 2) (FnD.mk0 (FnOk.mono (ok__law_called T) (by decide)) T.b__law_called T.u__law_called.kp) (hr.mono (by decide)) (takes_of (by rfl) (by rfl) (by rfl) (by rfl)) (by rfl) T.m__law_called (a_cons (e_fdiv (w_peek (pv 0)) (w_e e_int)) a_nil)))
 (ss_cons (s_set (fun _ h => ps_set (i := 2) sc__law_no_name.nd (by rfl) (by first | exact Or.inl rfl | exact Or.inr rfl) h) (e_mod (w_e (e_mod (w_e (e_fdiv (w_peek (pv 0)) (w_e e_int))) (w_e e_int))) (w_e (e_len (by rfl) (by rfl) T.z_len (aw_cons (w_peek (pv 1)) aw_nil)))))
 (ss_cons (s_set (fun _ h => ps_set (i := 3) sc__law_no_name.nd (by rfl) (by first | exact Or.inl rfl | exact Or.inr rfl) h) (e_lst (a_cons (e_str (by decide +kernel)) (a_cons (e_add (by rfl) (w_peek (pv 1)) (w_e (e_str (by decide +kernel)))) (a_cons e_non (a_cons e_int (a_cons e_bl (a_cons (e_lst (a_cons (e_var (pv 1)) a_nil)) (a_cons (e_tup (a_cons (e_var (pv 1)) a_nil)) (a_cons (e_upper (e_var (pv 1))) a_nil))))))))))
 (ss_cons (s_if (t_lt (w_e (e_mod (w_peek (pv 0)) (w_e e_int))) (w_e e_int))
 (ss_one (s_ret (e_ix (by rfl) (w_peek (pv 3)) (w_e (e_mod (w_peek (pv 0)) (w_e e_int))))))
 ss_nil)
 (ss_cons (s_if (t_eq (by rfl) hr.units (w_e (e_mod (w_peek (pv 0)) (w_e e_int))) (w_e e_int))
 (ss_one (s_ret (e_add (by rfl) (w_peek (pv 1)) (w_e (e_str (by decide +kernel))))))
 ss_nil)
 (ss_cons (s_set (fun _ h => ps_set (i := 4) sc__law_no_name.nd (by rfl) (by first | exact Or.inl rfl | exact Or.inr rfl) h) (e_str (by decide +kernel)))
 (ss_one (s_ret (e_add (by rfl) (w_e (e_add (by rfl) (w_e (e_slice (by rfl) (w_peek (pv 1)) o_none (o_some (e_var (pv 2))))) (w_e (e_ix (by rfl) (w_peek (pv 4)) (w_e (e_mod (w_e (e_fdiv (w_peek (pv 0)) (w_e e_int))) (w_e e_int))))))) (w_e (e_slice (by rfl) (w_peek (pv 1)) (o_some (e_add (by rfl) (w_peek (pv 2)) (w_e (e_int1 (by rfl) T.z_int (aw_cons (w_e (e_lt (w_e (e_mod (w_peek (pv 0)) (w_e e_int))) (w_e e_int))) aw_nil))))) o_none)))))))))))
theorem sc__law_told : FnScope n__law_told p__law_told (defScope s__law_told) := ⟨rfl, rfl, rfl, by decide +kernel, rfl, by decide +kernel, by decide +kernel⟩
theorem ok__law_told (T : Tx K mg) : FnOk P w K mg base (L2.CX P w) 4 T.a__law_told T.d__law_told p__law_told (spD T.Γ 1 den__law_told) := by
  refine fn_ok (Γ := T.Γ) (k := 3) T.u__law_told sc__law_told fun cdv A outer s H E hr => ?_
  exact (ss_cons (s_set (fun _ h => ps_set (i := 1) sc__law_told.nd (by rfl) (by first | exact Or.inl rfl | exact Or.inr rfl) h) (e_call (k := 2) (FnD.mk0 (FnOk.mono (ok__law_called T) (by decide)) T.b__law_called T.u__law_called.kp) (hr.mono (by decide)) (takes_of (by rfl) (by rfl) (by rfl) (by rfl)) (by rfl) T.m__law_called (a_cons (e_fdiv (w_peek (pv 0)) (w_e e_int)) a_nil)))
 (ss_cons (s_set (fun _ h => ps_set (i := 2) sc__law_told.nd (by rfl) (by first | exact Or.inl rfl | exact Or.inr rfl) h) (e_mod (w_peek (pv 0)) (w_e e_int)))
 (ss_cons (s_if (t_lt (w_peek (pv 2)) (w_e e_int))
 (ss_one (s_ret (e_tup (a_cons (e_ix (by rfl) (w_n (n_lst (a_cons (e_str (by decide +kernel)) (a_cons (e_str (by decide +kernel)) (a_cons (e_str (by decide +kernel)) a_nil))))) (w_peek (pv 2))) (a_cons (e_var (pv 1)) (a_cons (e_eq (by rfl) hr.units (w_e (e_mod (w_e (e_fdiv (w_peek (pv 0)) (w_e e_int))) (w_e e_int))) (w_e e_int)) a_nil))))))
 ss_nil)
 (ss_one (s_ret (e_tup (a_cons (e_ix (by rfl) (w_n (n_lst (a_cons (e_str (by decide +kernel)) (a_cons (e_str (by decide +kernel)) a_nil)))) (w_e (e_sub (w_peek (pv 2)) (w_e e_int)))) (a_cons (e_var (pv 1)) a_nil))))))))
theorem sc_Parameter_init : FnScope n_Parameter_init p_Parameter_init (defScope s_Parameter_init) := ⟨rfl, rfl, rfl, by decide +kernel, rfl, by decide +kernel, by decide +kernel⟩
theorem ok_Parameter_init (T : Tx K mg) : FnOk P w K mg base (L2.CX P w) 4 T.a_Parameter_init T.d_Parameter_init p_Parameter_init (spI T.Γ 1 den_Parameter_init) := by
  refine init_ok (Γ := T.Γ) (k := 3) T.u_Parameter_init sc_Parameter_init rfl fun cdv A outer s H E hr => ?_
  exact (ss_cons (s_if (t_not (t_tru (by rfl) (w_e (e_call (k := 2) (FnD.mk0 (FnOk.mono (ok_is_name T) (by decide)) T.b_is_name T.u_is_name.kp) (hr.mono (by decide)) (takes_of (by rfl) (by rfl) (by rfl) (by rfl)) (by rfl) T.m_is_name (a_cons (e_var (pv 1)) a_nil)))))
 (ss_one (s_raise0 (c := 1) (by rfl) (takes_of (by rfl) (by rfl) (by rfl) (by rfl)) T.xc_NoName T.m_NoName T.kp_NoName T.sb_NoName T.ty_NoName (by rfl)))
 ss_nil)
 (ss_one (s_fst (tab := [(13, 0), (14, 0), (15, 0), (16, 0), (17, 0)]) (by rfl) (fa_cons ⟨T.cl_Seat, T.na_Seat_name, by rfl, flds_small 13⟩ (fa_cons ⟨T.cl_Both, T.na_Both_name, by rfl, flds_small 14⟩ (fa_cons ⟨T.cl_Tail, T.na_Tail_name, by rfl, flds_small 15⟩ (fa_cons ⟨T.cl_Tag, T.na_Tag_name, by rfl, flds_small 16⟩ (fa_cons ⟨T.cl_Bag, T.na_Bag_name, by rfl, flds_small 17⟩ fa_nil))))) (pv 0) (e_var (pv 1)))))
theorem sc_Parameter_told : FnScope n_Parameter_told p_Parameter_told (defScope s_Parameter_told) := ⟨rfl, rfl, rfl, by decide +kernel, rfl, by decide +kernel, by decide +kernel⟩
theorem ok_Parameter_told (T : Tx K mg) : FnOk P w K mg base (L2.CX P w) 4 T.a_Parameter_told T.d_Parameter_told p_Parameter_told (spD T.Γ 1 den_Parameter_told) := by
  refine fn_ok (Γ := T.Γ) (k := 3) T.u_Parameter_told sc_Parameter_told fun cdv A outer s H E hr => ?_
  exact (ss_one (s_ret (e_tup (a_cons (e_meth0 (k := 2) (n := 1) (dfl := []) (tab := [(13, den_Seat_word), (14, den_Both_word), (15, den_Tail_word), (16, den_Tag_word), (17, den_Bag_word)]) (fa_cons ⟨T.cl_Seat, by rfl, _, T.me_Seat_word, (FnD.mk0 (FnOk.mono (ok_Seat_word T) (by decide)) T.b_Seat_word T.u_Seat_word.kp)⟩ (fa_cons ⟨T.cl_Both, by rfl, _, T.me_Both_word, (FnD.mk0 (FnOk.mono (ok_Both_word T) (by decide)) T.b_Both_word T.u_Both_word.kp)⟩ (fa_cons ⟨T.cl_Tail, by rfl, _, T.me_Tail_word, (FnD.mk0 (FnOk.mono (ok_Tail_word T) (by decide)) T.b_Tail_word T.u_Tail_word.kp)⟩ (fa_cons ⟨T.cl_Tag, by rfl, _, T.me_Tag_word, (FnD.mk0 (FnOk.mono (ok_Tag_word T) (by decide)) T.b_Tag_word T.u_Tag_word.kp)⟩ (fa_cons ⟨T.cl_Bag, by rfl, _, T.me_Bag_word, (FnD.mk0 (FnOk.mono (ok_Bag_word T) (by decide)) T.b_Bag_word T.u_Bag_word.kp)⟩ fa_nil))))) (hr.mono (by decide)) (takes_of (by rfl) (by rfl) (by rfl) (by rfl)) (e_var (pv 0))) (a_cons (e_fld (tab := [(13, 0), (14, 0), (15, 0), (16, 0), (17, 0)]) (by rfl) (fa_cons ⟨T.cl_Seat, T.na_Seat_name, by rfl, flds_small 13⟩ (fa_cons ⟨T.cl_Both, T.na_Both_name, by rfl, flds_small 14⟩ (fa_cons ⟨T.cl_Tail, T.na_Tail_name, by rfl, flds_small 15⟩ (fa_cons ⟨T.cl_Tag, T.na_Tag_name, by rfl, flds_small 16⟩ (fa_cons ⟨T.cl_Bag, T.na_Bag_name, by rfl, flds_small 17⟩ fa_nil))))) (w_peek (pv 0))) a_nil)))))
theorem sc_Single_told : FnScope n_Single_told p_Single_told (defScope s_Single_told) := ⟨rfl, rfl, rfl, by decide +kernel, rfl, by decide +kernel, by decide +kernel⟩
theorem ok_Single_told (T : Tx K mg) : FnOk P w K mg base (L2.CX P w) 4 T.a_Single_told T.d_Single_told p_Single_told (spD T.Γ 1 den_Single_told) := by
  refine fn_ok (Γ := T.Γ) (k := 3) T.u_Single_told sc_Single_told fun cdv A outer s H E hr => ?_
  exact (ss_one (s_ret (e_tup (a_cons (e_meth0 (k := 2) (n := 1) (dfl := []) (tab := [(13, den_Seat_word), (14, den_Both_word), (15, den_Tail_word), (16, den_Tag_word), (17, den_Bag_word)]) (fa_cons ⟨T.cl_Seat, by rfl, _, T.me_Seat_word, (FnD.mk0 (FnOk.mono (ok_Seat_word T) (by decide)) T.b_Seat_word T.u_Seat_word.kp)⟩ (fa_cons ⟨T.cl_Both, by rfl, _, T.me_Both_word, (FnD.mk0 (FnOk.mono (ok_Both_word T) (by decide)) T.b_Both_word T.u_Both_word.kp)⟩ (fa_cons ⟨T.cl_Tail, by rfl, _, T.me_Tail_word, (FnD.mk0 (FnOk.mono (ok_Tail_word T) (by decide)) T.b_Tail_word T.u_Tail_word.kp)⟩ (fa_cons ⟨T.cl_Tag, by rfl, _, T.me_Tag_word, (FnD.mk0 (FnOk.mono (ok_Tag_word T) (by decide)) T.b_Tag_word T.u_Tag_word.kp)⟩ (fa_cons ⟨T.cl_Bag, by rfl, _, T.me_Bag_word, (FnD.mk0 (FnOk.mono (ok_Bag_word T) (by decide)) T.b_Bag_word T.u_Bag_word.kp)⟩ fa_nil))))) (hr.mono (by decide)) (takes_of (by rfl) (by rfl) (by rfl) (by rfl)) (e_var (pv 0))) (a_cons (e_fld (tab := [(13, 0), (14, 0), (15, 0), (16, 0), (17, 0)]) (by rfl) (fa_cons ⟨T.cl_Seat, T.na_Seat_name, by rfl, flds_small 13⟩ (fa_cons ⟨T.cl_Both, T.na_Both_name, by rfl, flds_small 14⟩ (fa_cons ⟨T.cl_Tail, T.na_Tail_name, by rfl, flds_small 15⟩ (fa_cons ⟨T.cl_Tag, T.na_Tag_name, by rfl, flds_small 16⟩ (fa_cons ⟨T.cl_Bag, T.na_Bag_name, by rfl, flds_small 17⟩ fa_nil))))) (w_peek (pv 0))) (a_cons (e_fld (tab := [(13, 1), (14, 1), (16, 1)]) (by rfl) (fa_cons ⟨T.cl_Seat, T.na_Seat_loose, by rfl, flds_small 13⟩ (fa_cons ⟨T.cl_Both, T.na_Both_loose, by rfl, flds_small 14⟩ (fa_cons ⟨T.cl_Tag, T.na_Tag_loose, by rfl, flds_small 16⟩ fa_nil))) (w_peek (pv 0))) a_nil))))))
theorem sc__law_is : FnScope n__law_is p__law_is (defScope s__law_is) := ⟨rfl, rfl, rfl, by decide +kernel, rfl, by decide +kernel, by decide +kernel⟩
theorem ok__law_is (T : Tx K mg) : FnOk P w K mg base (L2.CX P w) 6 T.a__law_is T.d__law_is p__law_is (spD T.Γ 2 den__law_is) := by
  refine fn_ok (Γ := T.Γ) (k := 5) T.u__law_is sc__law_is fun cdv A outer s H E hr => ?_
  exact (ss_cons (s_set (fun _ h => ps_set (i := 2) sc__law_is.nd (by rfl) (by first | exact Or.inl rfl | exact Or.inr rfl) h) (e_lst (a_cons (e_str (by decide +kernel)) (a_cons (e_str (by decide +kernel)) (a_cons (e_str (by decide +kernel)) (a_cons (e_str (by decide +kernel)) (a_cons (e_str (by decide +kernel)) a_nil)))))))
 (ss_cons (s_if (t_ne (by rfl) hr.units (w_e (e_call (k := 2) (FnD.mk0 (FnOk.mono (ok__law_sorts T) (by decide)) T.b__law_sorts T.u__law_sorts.kp) (hr.mono (by decide)) (takes_of (by rfl) (by rfl) (by rfl) (by rfl)) (by rfl) T.m__law_sorts (a_cons (e_var (pv 0)) a_nil))) (w_e (e_add (by rfl) (w_n (n_comp (by rfl) sc__law_is.nd (i_list (by rfl) (e_var (pv 2))) (blkOk_by (own := [("word", 4)]) (N := n__law_is) (sc := defScope s__law_is) (by decide +kernel)) (by decide) (fun _ _ _ _ _ => (g_name (pg_name (i := 4) sc__law_is.nd (by rfl) (by first | exact Or.inl rfl | exact Or.inr rfl)))) (fun _ _ _ _ _ => q_nil) (fun _ _ _ _ _ => (e_eq (by rfl) hr.units (w_e (e_ix (by rfl) (w_peek (pv 1)) (w_e e_int))) (w_peek (pv 4)))))) (w_n (n_lst (a_cons e_bl a_nil))))))
 (ss_one (s_ret e_bl))
 ss_nil)
 (ss_cons (s_if (PW.pt (t_or (t_not (t_tru (by rfl) (w_e (e_isB (b := "str") (by rfl) (by rfl) T.z_isinstance (w_e (e_fld (tab := [(13, 0), (14, 0), (15, 0), (16, 0), (17, 0)]) (by rfl) (fa_cons ⟨T.cl_Seat, T.na_Seat_name, by rfl, flds_small 13⟩ (fa_cons ⟨T.cl_Both, T.na_Both_name, by rfl, flds_small 14⟩ (fa_cons ⟨T.cl_Tail, T.na_Tail_name, by rfl, flds_small 15⟩ (fa_cons ⟨T.cl_Tag, T.na_Tag_name, by rfl, flds_small 16⟩ (fa_cons ⟨T.cl_Bag, T.na_Bag_name, by rfl, flds_small 17⟩ fa_nil))))) (w_peek (pv 0)))) (by rfl) T.z_str (by decide +kernel))))) (t_or (t_ne (by rfl) hr.units (w_e (e_fld (tab := [(13, 0), (14, 0), (15, 0), (16, 0), (17, 0)]) (by rfl) (fa_cons ⟨T.cl_Seat, T.na_Seat_name, by rfl, flds_small 13⟩ (fa_cons ⟨T.cl_Both, T.na_Both_name, by rfl, flds_small 14⟩ (fa_cons ⟨T.cl_Tail, T.na_Tail_name, by rfl, flds_small 15⟩ (fa_cons ⟨T.cl_Tag, T.na_Tag_name, by rfl, flds_small 16⟩ (fa_cons ⟨T.cl_Bag, T.na_Bag_name, by rfl, flds_small 17⟩ fa_nil))))) (w_peek (pv 0)))) (w_e (e_ix (by rfl) (w_peek (pv 1)) (w_e e_int)))) (t_or (t_not (t_tru (by rfl) (w_e (e_isB (b := "tuple") (by rfl) (by rfl) T.z_isinstance (w_e (e_meth0 (k := 4) (n := 1) (dfl := []) (tab := [(13, den_Single_told), (14, den_Single_told), (15, den_Parameter_told), (16, den_Single_told), (17, den_Parameter_told)]) (fa_cons ⟨T.cl_Seat, by rfl, _, T.me_Seat_told, (FnD.mk0 (FnOk.mono (ok_Single_told T) (by decide)) T.b_Single_told T.u_Single_told.kp)⟩ (fa_cons ⟨T.cl_Both, by rfl, _, T.me_Both_told, (FnD.mk0 (FnOk.mono (ok_Single_told T) (by decide)) T.b_Single_told T.u_Single_told.kp)⟩ (fa_cons ⟨T.cl_Tail, by rfl, _, T.me_Tail_told, (FnD.mk0 (FnOk.mono (ok_Parameter_told T) (by decide)) T.b_Parameter_told T.u_Parameter_told.kp)⟩ (fa_cons ⟨T.cl_Tag, by rfl, _, T.me_Tag_told, (FnD.mk0 (FnOk.mono (ok_Single_told T) (by decide)) T.b_Single_told T.u_Single_told.kp)⟩ (fa_cons ⟨T.cl_Bag, by rfl, _, T.me_Bag_told, (FnD.mk0 (FnOk.mono (ok_Parameter_told T) (by decide)) T.b_Parameter_told T.u_Parameter_told.kp)⟩ fa_nil))))) (hr.mono (by decide)) (takes_of (by rfl) (by rfl) (by rfl) (by rfl)) (e_var (pv 0)))) (by rfl) T.z_tuple (by decide +kernel))))) (t_or1 (t_ne (by rfl) hr.units (w_e (e_meth0 (k := 4) (n := 1) (dfl := []) (tab := [(13, den_Single_told), (14, den_Single_told), (15, den_Parameter_told), (16, den_Single_told), (17, den_Parameter_told)]) (fa_cons ⟨T.cl_Seat, by rfl, _, T.me_Seat_told, (FnD.mk0 (FnOk.mono (ok_Single_told T) (by decide)) T.b_Single_told T.u_Single_told.kp)⟩ (fa_cons ⟨T.cl_Both, by rfl, _, T.me_Both_told, (FnD.mk0 (FnOk.mono (ok_Single_told T) (by decide)) T.b_Single_told T.u_Single_told.kp)⟩ (fa_cons ⟨T.cl_Tail, by rfl, _, T.me_Tail_told, (FnD.mk0 (FnOk.mono (ok_Parameter_told T) (by decide)) T.b_Parameter_told T.u_Parameter_told.kp)⟩ (fa_cons ⟨T.cl_Tag, by rfl, _, T.me_Tag_told, (FnD.mk0 (FnOk.mono (ok_Single_told T) (by decide)) T.b_Single_told T.u_Single_told.kp)⟩ (fa_cons ⟨T.cl_Bag, by rfl, _, T.me_Bag_told, (FnD.mk0 (FnOk.mono (ok_Parameter_told T) (by decide)) T.b_Parameter_told T.u_Parameter_told.kp)⟩ fa_nil))))) (hr.mono (by decide)) (takes_of (by rfl) (by rfl) (by rfl) (by rfl)) (e_var (pv 0)))) (w_peek (pv 1))))))))
 (ss_one (s_ret e_bl))
 ss_nil)
 (ss_cons (s_set (fun _ h => ps_set (i := 3) sc__law_is.nd (by rfl) (by first | exact Or.inl rfl | exact Or.inr rfl) h) (e_lst (a_cons (e_meth0 (k := 2) (n := 1) (dfl := []) (tab := [(13, den_Single_free), (14, den_Single_free), (15, den_Parameter_free), (16, den_Single_free), (17, den_Parameter_free)]) (fa_cons ⟨T.cl_Seat, by rfl, _, T.me_Seat_free, (FnD.mk0 (FnOk.mono (ok_Single_free T) (by decide)) T.b_Single_free T.u_Single_free.kp)⟩ (fa_cons ⟨T.cl_Both, by rfl, _, T.me_Both_free, (FnD.mk0 (FnOk.mono (ok_Single_free T) (by decide)) T.b_Single_free T.u_Single_free.kp)⟩ (fa_cons ⟨T.cl_Tail, by rfl, _, T.me_Tail_free, (FnD.mk0 (FnOk.mono (ok_Parameter_free T) (by decide)) T.b_Parameter_free T.u_Parameter_free.kp)⟩ (fa_cons ⟨T.cl_Tag, by rfl, _, T.me_Tag_free, (FnD.mk0 (FnOk.mono (ok_Single_free T) (by decide)) T.b_Single_free T.u_Single_free.kp)⟩ (fa_cons ⟨T.cl_Bag, by rfl, _, T.me_Bag_free, (FnD.mk0 (FnOk.mono (ok_Parameter_free T) (by decide)) T.b_Parameter_free T.u_Parameter_free.kp)⟩ fa_nil))))) (hr.mono (by decide)) (takes_of (by rfl) (by rfl) (by rfl) (by rfl)) (e_var (pv 0))) (a_cons (e_meth0 (k := 2) (n := 1) (dfl := []) (tab := [(13, den_Seat_by_place), (14, den_Both_by_place), (15, den_Parameter_by_place), (16, den_Parameter_by_place), (17, den_Parameter_by_place)]) (fa_cons ⟨T.cl_Seat, by rfl, _, T.me_Seat_by_place, (FnD.mk0 (FnOk.mono (ok_Seat_by_place T) (by decide)) T.b_Seat_by_place T.u_Seat_by_place.kp)⟩ (fa_cons ⟨T.cl_Both, by rfl, _, T.me_Both_by_place, (FnD.mk0 (FnOk.mono (ok_Both_by_place T) (by decide)) T.b_Both_by_place T.u_Both_by_place.kp)⟩ (fa_cons ⟨T.cl_Tail, by rfl, _, T.me_Tail_by_place, (FnD.mk0 (FnOk.mono (ok_Parameter_by_place T) (by decide)) T.b_Parameter_by_place T.u_Parameter_by_place.kp)⟩ (fa_cons ⟨T.cl_Tag, by rfl, _, T.me_Tag_by_place, (FnD.mk0 (FnOk.mono (ok_Parameter_by_place T) (by decide)) T.b_Parameter_by_place T.u_Parameter_by_place.kp)⟩ (fa_cons ⟨T.cl_Bag, by rfl, _, T.me_Bag_by_place, (FnD.mk0 (FnOk.mono (ok_Parameter_by_place T) (by decide)) T.b_Parameter_by_place T.u_Parameter_by_place.kp)⟩ fa_nil))))) (hr.mono (by decide)) (takes_of (by rfl) (by rfl) (by rfl) (by rfl)) (e_var (pv 0))) (a_cons (e_meth0 (k := 2) (n := 1) (dfl := []) (tab := [(13, den_Parameter_by_name), (14, den_Both_by_name), (15, den_Parameter_by_name), (16, den_Tag_by_name), (17, den_Parameter_by_name)]) (fa_cons ⟨T.cl_Seat, by rfl, _, T.me_Seat_by_name, (FnD.mk0 (FnOk.mono (ok_Parameter_by_name T) (by decide)) T.b_Parameter_by_name T.u_Parameter_by_name.kp)⟩ (fa_cons ⟨T.cl_Both, by rfl, _, T.me_Both_by_name, (FnD.mk0 (FnOk.mono (ok_Both_by_name T) (by decide)) T.b_Both_by_name T.u_Both_by_name.kp)⟩ (fa_cons ⟨T.cl_Tail, by rfl, _, T.me_Tail_by_name, (FnD.mk0 (FnOk.mono (ok_Parameter_by_name T) (by decide)) T.b_Parameter_by_name T.u_Parameter_by_name.kp)⟩ (fa_cons ⟨T.cl_Tag, by rfl, _, T.me_Tag_by_name, (FnD.mk0 (FnOk.mono (ok_Tag_by_name T) (by decide)) T.b_Tag_by_name T.u_Tag_by_name.kp)⟩ (fa_cons ⟨T.cl_Bag, by rfl, _, T.me_Bag_by_name, (FnD.mk0 (FnOk.mono (ok_Parameter_by_name T) (by decide)) T.b_Parameter_by_name T.u_Parameter_by_name.kp)⟩ fa_nil))))) (hr.mono (by decide)) (takes_of (by rfl) (by rfl) (by rfl) (by rfl)) (e_var (pv 0))) a_nil)))))
 (ss_cons (s_if (t_ne (by rfl) hr.units (w_n (n_comp (by rfl) sc__law_is.nd (i_list (by rfl) (e_add (by rfl) (w_peek (pv 3)) (w_n (n_list (by rfl) (by rfl) T.z_list (aw_cons (w_e (e_slice (by rfl) (w_e (e_meth0 (k := 4) (n := 1) (dfl := []) (tab := [(13, den_Single_told), (14, den_Single_told), (15, den_Parameter_told), (16, den_Single_told), (17, den_Parameter_told)]) (fa_cons ⟨T.cl_Seat, by rfl, _, T.me_Seat_told, (FnD.mk0 (FnOk.mono (ok_Single_told T) (by decide)) T.b_Single_told T.u_Single_told.kp)⟩ (fa_cons ⟨T.cl_Both, by rfl, _, T.me_Both_told, (FnD.mk0 (FnOk.mono (ok_Single_told T) (by decide)) T.b_Single_told T.u_Single_told.kp)⟩ (fa_cons ⟨T.cl_Tail, by rfl, _, T.me_Tail_told, (FnD.mk0 (FnOk.mono (ok_Parameter_told T) (by decide)) T.b_Parameter_told T.u_Parameter_told.kp)⟩ (fa_cons ⟨T.cl_Tag, by rfl, _, T.me_Tag_told, (FnD.mk0 (FnOk.mono (ok_Single_told T) (by decide)) T.b_Single_told T.u_Single_told.kp)⟩ (fa_cons ⟨T.cl_Bag, by rfl, _, T.me_Bag_told, (FnD.mk0 (FnOk.mono (ok_Parameter_told T) (by decide)) T.b_Parameter_told T.u_Parameter_told.kp)⟩ fa_nil))))) (hr.mono (by decide)) (takes_of (by rfl) (by rfl) (by rfl) (by rfl)) (e_var (pv 0)))) (o_some e_int) o_none)) aw_nil))))) (blkOk_by (own := [("truth", 5)]) (N := n__law_is) (sc := defScope s__law_is) (by decide +kernel)) (by decide) (fun _ _ _ _ _ => (g_name (pg_name (i := 5) sc__law_is.nd (by rfl) (by first | exact Or.inl rfl | exact Or.inr rfl)))) (fun _ _ _ _ _ => (q_one (t_not (t_tru (by rfl) (w_e (e_isB (b := "bool") (by rfl) (by rfl) T.z_isinstance (w_peek (pv 5)) (by rfl) T.z_bool (by decide +kernel))))))) (fun _ _ _ _ _ => (e_var (pv 5))))) (w_n (n_lst a_nil)))
 (ss_one (s_ret e_bl))
 ss_nil)
 (ss_cons (s_if (t_ne (by rfl) hr.units (w_peek (pv 3)) (w_n (n_lst (a_cons (e_or (e_eq (by rfl) hr.units (w_e (e_len (by rfl) (by rfl) T.z_len (aw_cons (w_peek (pv 1)) aw_nil))) (w_e e_int)) (e_one (e_ix (by rfl) (w_peek (pv 1)) (w_e e_int)))) (a_cons (e_in (by rfl) hr.units (w_e (e_ix (by rfl) (w_peek (pv 1)) (w_e e_int))) (w_e (e_tup (a_cons (e_str (by decide +kernel)) (a_cons (e_str (by decide +kernel)) a_nil))))) (a_cons (e_in (by rfl) hr.units (w_e (e_ix (by rfl) (w_peek (pv 1)) (w_e e_int))) (w_e (e_tup (a_cons (e_str (by decide +kernel)) (a_cons (e_str (by decide +kernel)) a_nil))))) a_nil))))))
 (ss_one (s_ret e_bl))
 ss_nil)
 (ss_one (s_ret (e_and (e_eq (by rfl) hr.units (w_e (e_meth0 (k := 4) (n := 1) (dfl := []) (tab := [(13, den_Single_told), (14, den_Single_told), (15, den_Parameter_told), (16, den_Single_told), (17, den_Parameter_told)]) (fa_cons ⟨T.cl_Seat, by rfl, _, T.me_Seat_told, (FnD.mk0 (FnOk.mono (ok_Single_told T) (by decide)) T.b_Single_told T.u_Single_told.kp)⟩ (fa_cons ⟨T.cl_Both, by rfl, _, T.me_Both_told, (FnD.mk0 (FnOk.mono (ok_Single_told T) (by decide)) T.b_Single_told T.u_Single_told.kp)⟩ (fa_cons ⟨T.cl_Tail, by rfl, _, T.me_Tail_told, (FnD.mk0 (FnOk.mono (ok_Parameter_told T) (by decide)) T.b_Parameter_told T.u_Parameter_told.kp)⟩ (fa_cons ⟨T.cl_Tag, by rfl, _, T.me_Tag_told, (FnD.mk0 (FnOk.mono (ok_Single_told T) (by decide)) T.b_Single_told T.u_Single_told.kp)⟩ (fa_cons ⟨T.cl_Bag, by rfl, _, T.me_Bag_told, (FnD.mk0 (FnOk.mono (ok_Parameter_told T) (by decide)) T.b_Parameter_told T.u_Parameter_told.kp)⟩ fa_nil))))) (hr.mono (by decide)) (takes_of (by rfl) (by rfl) (by rfl) (by rfl)) (e_var (pv 0)))) (w_peek (pv 1))) (e_one (e_eq (by rfl) hr.units (w_n (n_lst (a_cons (e_meth0 (k := 2) (n := 1) (dfl := []) (tab := [(13, den_Single_free), (14, den_Single_free), (15, den_Parameter_free), (16, den_Single_free), (17, den_Parameter_free)]) (fa_cons ⟨T.cl_Seat, by rfl, _, T.me_Seat_free, (FnD.mk0 (FnOk.mono (ok_Single_free T) (by decide)) T.b_Single_free T.u_Single_free.kp)⟩ (fa_cons ⟨T.cl_Both, by rfl, _, T.me_Both_free, (FnD.mk0 (FnOk.mono (ok_Single_free T) (by decide)) T.b_Single_free T.u_Single_free.kp)⟩ (fa_cons ⟨T.cl_Tail, by rfl, _, T.me_Tail_free, (FnD.mk0 (FnOk.mono (ok_Parameter_free T) (by decide)) T.b_Parameter_free T.u_Parameter_free.kp)⟩ (fa_cons ⟨T.cl_Tag, by rfl, _, T.me_Tag_free, (FnD.mk0 (FnOk.mono (ok_Single_free T) (by decide)) T.b_Single_free T.u_Single_free.kp)⟩ (fa_cons ⟨T.cl_Bag, by rfl, _, T.me_Bag_free, (FnD.mk0 (FnOk.mono (ok_Parameter_free T) (by decide)) T.b_Parameter_free T.u_Parameter_free.kp)⟩ fa_nil))))) (hr.mono (by decide)) (takes_of (by rfl) (by rfl) (by rfl) (by rfl)) (e_var (pv 0))) (a_cons (e_meth0 (k := 2) (n := 1) (dfl := []) (tab := [(13, den_Seat_by_place), (14, den_Both_by_place), (15, den_Parameter_by_place), (16, den_Parameter_by_place), (17, den_Parameter_by_place)]) (fa_cons ⟨T.cl_Seat, by rfl, _, T.me_Seat_by_place, (FnD.mk0 (FnOk.mono (ok_Seat_by_place T) (by decide)) T.b_Seat_by_place T.u_Seat_by_place.kp)⟩ (fa_cons ⟨T.cl_Both, by rfl, _, T.me_Both_by_place, (FnD.mk0 (FnOk.mono (ok_Both_by_place T) (by decide)) T.b_Both_by_place T.u_Both_by_place.kp)⟩ (fa_cons ⟨T.cl_Tail, by rfl, _, T.me_Tail_by_place, (FnD.mk0 (FnOk.mono (ok_Parameter_by_place T) (by decide)) T.b_Parameter_by_place T.u_Parameter_by_place.kp)⟩ (fa_cons ⟨T.cl_Tag, by rfl, _, T.me_Tag_by_place, (FnD.mk0 (FnOk.mono (ok_Parameter_by_place T) (by decide)) T.b_Parameter_by_place T.u_Parameter_by_place.kp)⟩ (fa_cons ⟨T.cl_Bag, by rfl, _, T.me_Bag_by_place, (FnD.mk0 (FnOk.mono (ok_Parameter_by_place T) (by decide)) T.b_Parameter_by_place T.u_Parameter_by_place.kp)⟩ fa_nil))))) (hr.mono (by decide)) (takes_of (by rfl) (by rfl) (by rfl) (by rfl)) (e_var (pv 0))) (a_cons (e_meth0 (k := 2) (n := 1) (dfl := []) (tab := [(13, den_Parameter_by_name), (14, den_Both_by_name), (15, den_Parameter_by_name), (16, den_Tag_by_name), (17, den_Parameter_by_name)]) (fa_cons ⟨T.cl_Seat, by rfl, _, T.me_Seat_by_name, (FnD.mk0 (FnOk.mono (ok_Parameter_by_name T) (by decide)) T.b_Parameter_by_name T.u_Parameter_by_name.kp)⟩ (fa_cons ⟨T.cl_Both, by rfl, _, T.me_Both_by_name, (FnD.mk0 (FnOk.mono (ok_Both_by_name T) (by decide)) T.b_Both_by_name T.u_Both_by_name.kp)⟩ (fa_cons ⟨T.cl_Tail, by rfl, _, T.me_Tail_by_name, (FnD.mk0 (FnOk.mono (ok_Parameter_by_name T) (by decide)) T.b_Parameter_by_name T.u_Parameter_by_name.kp)⟩ (fa_cons ⟨T.cl_Tag, by rfl, _, T.me_Tag_by_name, (FnD.mk0 (FnOk.mono (ok_Tag_by_name T) (by decide)) T.b_Tag_by_name T.u_Tag_by_name.kp)⟩ (fa_cons ⟨T.cl_Bag, by rfl, _, T.me_Bag_by_name, (FnD.mk0 (FnOk.mono (ok_Parameter_by_name T) (by decide)) T.b_Parameter_by_name T.u_Parameter_by_name.kp)⟩ fa_nil))))) (hr.mono (by decide)) (takes_of (by rfl) (by rfl) (by rfl) (by rfl)) (e_var (pv 0))) a_nil))))) (w_peek (pv 3)))))))))))))
theorem sc_Single_init : FnScope n_Single_init p_Single_init (defScope s_Single_init) := ⟨rfl, rfl, rfl, by decide +kernel, rfl, by decide +kernel, by decide +kernel⟩
theorem ok_Single_init (T : Tx K mg) : FnOk P w K mg base (L2.CX P w) 6 T.a_Single_init T.d_Single_init p_Single_init (spI T.Γ 2 den_Single_init) := by
  refine init_okD (Γ := T.Γ) (k := 5) T.u_Single_init sc_Single_init rfl fun cdv A outer s H E hr => ?_
  exact (ss_cons (s_super (i := 0) (k := 4) (InD.mk0 (FnOk.mono (ok_Parameter_init T) (by decide)) T.b_Parameter_init T.u_Parameter_init.kp) T.ci_Parameter (hr.mono (by decide)) (takes_of (by rfl) (by rfl) (by rfl) (by rfl)) (by rfl) T.m_Parameter (pv 0) (a_cons (e_var (pv 1)) a_nil))
 (ss_one (s_fst (tab := [(13, 1), (14, 1), (16, 1)]) (by rfl) (fa_cons ⟨T.cl_Seat, T.na_Seat_loose, by rfl, flds_small 13⟩ (fa_cons ⟨T.cl_Both, T.na_Both_loose, by rfl, flds_small 14⟩ (fa_cons ⟨T.cl_Tag, T.na_Tag_loose, by rfl, flds_small 16⟩ fa_nil))) (pv 0) (e_var (pv 2)))))
theorem sc_parameter_of : FnScope n_parameter_of p_parameter_of (defScope s_parameter_of) := ⟨rfl, rfl, rfl, by decide +kernel, rfl, by decide +kernel, by decide +kernel⟩
theorem ok_parameter_of (T : Tx K mg) : FnOk P w K mg base (L2.CX P w) 8 T.a_parameter_of T.d_parameter_of p_parameter_of (spD T.Γ 1 den_parameter_of) := by
  refine fn_ok (Γ := T.Γ) (k := 7) T.u_parameter_of sc_parameter_of fun cdv A outer s H E hr => ?_
  exact (ss_cons (s_if (t_eq (by rfl) hr.units (w_e (e_ix (by rfl) (w_peek (pv 0)) (w_e e_int))) (w_e (e_str (by decide +kernel))))
 (ss_one (s_ret (e_make (c := 13) (nf := 2) (k := 6) ⟨_, T.mk_Seat, (InD.mkD (FnOk.mono (ok_Single_init T) (by decide)) T.b_Single_init_3 (fun _ => .nil) T.u_Single_init.kp)⟩ (by rfl) (hr.mono (by decide)) (takes_of (by rfl) (by rfl) (by rfl) (by rfl)) (by rfl) T.m_Seat (a_cons (e_ix (by rfl) (w_peek (pv 0)) (w_e e_int)) (a_cons (e_ix (by rfl) (w_peek (pv 0)) (w_e e_int)) a_nil)))))
 ss_nil)
 (ss_cons (s_if (t_eq (by rfl) hr.units (w_e (e_ix (by rfl) (w_peek (pv 0)) (w_e e_int))) (w_e (e_str (by decide +kernel))))
 (ss_one (s_ret (e_make (c := 14) (nf := 2) (k := 6) ⟨_, T.mk_Both, (InD.mkD (FnOk.mono (ok_Single_init T) (by decide)) T.b_Single_init_3 (fun _ => .nil) T.u_Single_init.kp)⟩ (by rfl) (hr.mono (by decide)) (takes_of (by rfl) (by rfl) (by rfl) (by rfl)) (by rfl) T.m_Both (a_cons (e_ix (by rfl) (w_peek (pv 0)) (w_e e_int)) (a_cons (e_ix (by rfl) (w_peek (pv 0)) (w_e e_int)) a_nil)))))
 ss_nil)
 (ss_cons (s_if (t_eq (by rfl) hr.units (w_e (e_ix (by rfl) (w_peek (pv 0)) (w_e e_int))) (w_e (e_str (by decide +kernel))))
 (ss_one (s_ret (e_make (c := 15) (nf := 1) (k := 4) ⟨_, T.mk_Tail, (InD.mk0 (FnOk.mono (ok_Parameter_init T) (by decide)) T.b_Parameter_init T.u_Parameter_init.kp)⟩ (by rfl) (hr.mono (by decide)) (takes_of (by rfl) (by rfl) (by rfl) (by rfl)) (by rfl) T.m_Tail (a_cons (e_ix (by rfl) (w_peek (pv 0)) (w_e e_int)) a_nil))))
 ss_nil)
 (ss_cons (s_if (t_eq (by rfl) hr.units (w_e (e_ix (by rfl) (w_peek (pv 0)) (w_e e_int))) (w_e (e_str (by decide +kernel))))
 (ss_one (s_ret (e_make (c := 16) (nf := 2) (k := 6) ⟨_, T.mk_Tag, (InD.mkD (FnOk.mono (ok_Single_init T) (by decide)) T.b_Single_init_3 (fun _ => .nil) T.u_Single_init.kp)⟩ (by rfl) (hr.mono (by decide)) (takes_of (by rfl) (by rfl) (by rfl) (by rfl)) (by rfl) T.m_Tag (a_cons (e_ix (by rfl) (w_peek (pv 0)) (w_e e_int)) (a_cons (e_ix (by rfl) (w_peek (pv 0)) (w_e e_int)) a_nil)))))
 ss_nil)
 (ss_one (s_ret (e_make (c := 17) (nf := 1) (k := 4) ⟨_, T.mk_Bag, (InD.mk0 (FnOk.mono (ok_Parameter_init T) (by decide)) T.b_Parameter_init T.u_Parameter_init.kp)⟩ (by rfl) (hr.mono (by decide)) (takes_of (by rfl) (by rfl) (by rfl) (by rfl)) (by rfl) T.m_Bag (a_cons (e_ix (by rfl) (w_peek (pv 0)) (w_e e_int)) a_nil))))))))
theorem sc__law_by_name : FnScope n__law_by_name p__law_by_name (defScope s__law_by_name) := ⟨rfl, rfl, rfl, by decide +kernel, rfl, by decide +kernel, by decide +kernel⟩
theorem ok__law_by_name (T : Tx K mg) : FnOk P w K mg base (L2.CX P w) 8 T.a__law_by_name T.d__law_by_name p__law_by_name (spD T.Γ 1 den__law_by_name) := by
  refine fn_ok (Γ := T.Γ) (k := 7) T.u__law_by_name sc__law_by_name fun cdv A outer s H E hr => ?_
  exact (ss_cons (s_if (t_eq (by rfl) hr.units (w_e (e_ix (by rfl) (w_peek (pv 0)) (w_e e_int))) (w_e (e_str (by decide +kernel))))
 (ss_one (s_ret (e_makeK (c := 13) (nf := 2) (n := 1) (ks := ["free"]) (N := 2) ⟨_, _, _, T.mk_Seat, FnOk.mono (ok_Single_init T) (Nat.le_refl _), T.kb_Single_init_2⟩ (by rfl) (hr.mono (by decide)) (takes_of (by rfl) (by rfl) (by rfl) (by rfl)) (by rfl) T.m_Seat (a_cons (e_ix (by rfl) (w_peek (pv 0)) (w_e e_int)) a_nil) (k_cons (e_ix (by rfl) (w_peek (pv 0)) (w_e e_int)) k_nil))))
 ss_nil)
 (ss_cons (s_if (t_eq (by rfl) hr.units (w_e (e_ix (by rfl) (w_peek (pv 0)) (w_e e_int))) (w_e (e_str (by decide +kernel))))
 (ss_one (s_ret (e_makeK (c := 14) (nf := 2) (n := 1) (ks := ["free"]) (N := 2) ⟨_, _, _, T.mk_Both, FnOk.mono (ok_Single_init T) (Nat.le_refl _), T.kb_Single_init_2⟩ (by rfl) (hr.mono (by decide)) (takes_of (by rfl) (by rfl) (by rfl) (by rfl)) (by rfl) T.m_Both (a_cons (e_ix (by rfl) (w_peek (pv 0)) (w_e e_int)) a_nil) (k_cons (e_ix (by rfl) (w_peek (pv 0)) (w_e e_int)) k_nil))))
 ss_nil)
 (ss_one (s_ret (e_makeK (c := 16) (nf := 2) (n := 1) (ks := ["free"]) (N := 2) ⟨_, _, _, T.mk_Tag, FnOk.mono (ok_Single_init T) (Nat.le_refl _), T.kb_Single_init_2⟩ (by rfl) (hr.mono (by decide)) (takes_of (by rfl) (by rfl) (by rfl) (by rfl)) (by rfl) T.m_Tag (a_cons (e_ix (by rfl) (w_peek (pv 0)) (w_e e_int)) a_nil) (k_cons (e_ix (by rfl) (w_peek (pv 0)) (w_e e_int)) k_nil))))))
theorem sc__law_made : FnScope n__law_made p__law_made (defScope s__law_made) := ⟨rfl, rfl, rfl, by decide +kernel, rfl, by decide +kernel, by decide +kernel⟩
theorem ok__law_made (T : Tx K mg) : FnOk P w K mg base (L2.CX P w) 10 T.a__law_made T.d__law_made p__law_made (spD T.Γ 2 den__law_made) := by
  refine fn_ok (Γ := T.Γ) (k := 9) T.u__law_made sc__law_made fun cdv A outer s H E hr => ?_
  exact (ss_cons (s_if (t_eq (by rfl) hr.units (w_peek (pv 1)) (w_e e_int))
 (ss_one (s_ret (e_call (k := 8) (FnD.mk0 (FnOk.mono (ok_parameter_of T) (by decide)) T.b_parameter_of T.u_parameter_of.kp) (hr.mono (by decide)) (takes_of (by rfl) (by rfl) (by rfl) (by rfl)) (by rfl) T.m_parameter_of (a_cons (e_var (pv 0)) a_nil))))
 ss_nil)
 (ss_cons (s_if (t_eq (by rfl) hr.units (w_e (e_ix (by rfl) (w_peek (pv 0)) (w_e e_int))) (w_e (e_str (by decide +kernel))))
 (ss_one (s_ret (e_make (c := 15) (nf := 1) (k := 4) ⟨_, T.mk_Tail, (InD.mk0 (FnOk.mono (ok_Parameter_init T) (by decide)) T.b_Parameter_init T.u_Parameter_init.kp)⟩ (by rfl) (hr.mono (by decide)) (takes_of (by rfl) (by rfl) (by rfl) (by rfl)) (by rfl) T.m_Tail (a_cons (e_ix (by rfl) (w_peek (pv 0)) (w_e e_int)) a_nil))))
 ss_nil)
 (ss_cons (s_if (t_eq (by rfl) hr.units (w_e (e_ix (by rfl) (w_peek (pv 0)) (w_e e_int))) (w_e (e_str (by decide +kernel))))
 (ss_one (s_ret (e_make (c := 17) (nf := 1) (k := 4) ⟨_, T.mk_Bag, (InD.mk0 (FnOk.mono (ok_Parameter_init T) (by decide)) T.b_Parameter_init T.u_Parameter_init.kp)⟩ (by rfl) (hr.mono (by decide)) (takes_of (by rfl) (by rfl) (by rfl) (by rfl)) (by rfl) T.m_Bag (a_cons (e_ix (by rfl) (w_peek (pv 0)) (w_e e_int)) a_nil))))
 ss_nil)
 (ss_cons (s_if (t_eq (by rfl) hr.units (w_peek (pv 1)) (w_e e_int))
 (ss_one (s_ret (e_call (k := 8) (FnD.mk0 (FnOk.mono (ok__law_by_name T) (by decide)) T.b__law_by_name T.u__law_by_name.kp) (hr.mono (by decide)) (takes_of (by rfl) (by rfl) (by rfl) (by rfl)) (by rfl) T.m__law_by_name (a_cons (e_var (pv 0)) a_nil))))
 ss_nil)
 (ss_cons (s_if (t_eq (by rfl) hr.units (w_e (e_ix (by rfl) (w_peek (pv 0)) (w_e e_int))) (w_e (e_str (by decide +kernel))))
 (ss_one (s_ret (e_if (t_tru (by rfl) (w_e (e_ix (by rfl) (w_peek (pv 0)) (w_e e_int)))) (e_make (c := 13) (nf := 2) (k := 6) ⟨_, T.mk_Seat, (InD.mkD (FnOk.mono (ok_Single_init T) (by decide)) T.b_Single_init_3 (fun _ => .nil) T.u_Single_init.kp)⟩ (by rfl) (hr.mono (by decide)) (takes_of (by rfl) (by rfl) (by rfl) (by rfl)) (by rfl) T.m_Seat (a_cons (e_ix (by rfl) (w_peek (pv 0)) (w_e e_int)) (a_cons (e_ix (by rfl) (w_peek (pv 0)) (w_e e_int)) a_nil))) (e_make (c := 13) (nf := 2) (k := 6) ⟨_, T.mk_Seat, (InD.mkD (FnOk.mono (ok_Single_init T) (by decide)) T.b_Single_init_2 (fun _ => (.cons rep_bl .nil)) T.u_Single_init.kp)⟩ (by rfl) (hr.mono (by decide)) (takes_of (by rfl) (by rfl) (by rfl) (by rfl)) (by rfl) T.m_Seat (a_cons (e_ix (by rfl) (w_peek (pv 0)) (w_e e_int)) a_nil)))))
 ss_nil)
 (ss_cons (s_if (t_eq (by rfl) hr.units (w_e (e_ix (by rfl) (w_peek (pv 0)) (w_e e_int))) (w_e (e_str (by decide +kernel))))
 (ss_one (s_ret (e_if (t_tru (by rfl) (w_e (e_ix (by rfl) (w_peek (pv 0)) (w_e e_int)))) (e_make (c := 14) (nf := 2) (k := 6) ⟨_, T.mk_Both, (InD.mkD (FnOk.mono (ok_Single_init T) (by decide)) T.b_Single_init_3 (fun _ => .nil) T.u_Single_init.kp)⟩ (by rfl) (hr.mono (by decide)) (takes_of (by rfl) (by rfl) (by rfl) (by rfl)) (by rfl) T.m_Both (a_cons (e_ix (by rfl) (w_peek (pv 0)) (w_e e_int)) (a_cons (e_ix (by rfl) (w_peek (pv 0)) (w_e e_int)) a_nil))) (e_make (c := 14) (nf := 2) (k := 6) ⟨_, T.mk_Both, (InD.mkD (FnOk.mono (ok_Single_init T) (by decide)) T.b_Single_init_2 (fun _ => (.cons rep_bl .nil)) T.u_Single_init.kp)⟩ (by rfl) (hr.mono (by decide)) (takes_of (by rfl) (by rfl) (by rfl) (by rfl)) (by rfl) T.m_Both (a_cons (e_ix (by rfl) (w_peek (pv 0)) (w_e e_int)) a_nil)))))
 ss_nil)
 (ss_one (s_ret (e_if (t_tru (by rfl) (w_e (e_ix (by rfl) (w_peek (pv 0)) (w_e e_int)))) (e_make (c := 16) (nf := 2) (k := 6) ⟨_, T.mk_Tag, (InD.mkD (FnOk.mono (ok_Single_init T) (by decide)) T.b_Single_init_3 (fun _ => .nil) T.u_Single_init.kp)⟩ (by rfl) (hr.mono (by decide)) (takes_of (by rfl) (by rfl) (by rfl) (by rfl)) (by rfl) T.m_Tag (a_cons (e_ix (by rfl) (w_peek (pv 0)) (w_e e_int)) (a_cons (e_ix (by rfl) (w_peek (pv 0)) (w_e e_int)) a_nil))) (e_make (c := 16) (nf := 2) (k := 6) ⟨_, T.mk_Tag, (InD.mkD (FnOk.mono (ok_Single_init T) (by decide)) T.b_Single_init_2 (fun _ => (.cons rep_bl .nil)) T.u_Single_init.kp)⟩ (by rfl) (hr.mono (by decide)) (takes_of (by rfl) (by rfl) (by rfl) (by rfl)) (by rfl) T.m_Tag (a_cons (e_ix (by rfl) (w_peek (pv 0)) (w_e e_int)) a_nil)))))))))))
theorem sc__law_refused : FnScope n__law_refused p__law_refused (defScope s__law_refused) := ⟨rfl, rfl, rfl, by decide +kernel, rfl, by decide +kernel, by decide +kernel⟩
theorem ok__law_refused (T : Tx K mg) : FnOk P w K mg base (L2.CX P w) 12 T.a__law_refused T.d__law_refused p__law_refused (spD T.Γ 2 den__law_refused) := by
  refine fn_ok (Γ := T.Γ) (k := 11) T.u__law_refused sc__law_refused fun cdv A outer s H E hr => ?_
  exact (ss_cons (s_set (fun _ h => ps_set (i := 2) sc__law_refused.nd (by rfl) (by first | exact Or.inl rfl | exact Or.inr rfl) h) e_bl)
 (ss_cons (s_set (fun _ h => ps_set (i := 3) sc__law_refused.nd (by rfl) (by first | exact Or.inl rfl | exact Or.inr rfl) h) e_bl)
 (ss_cons (s_try_as (i := 4) (tab := [(1, true)]) (by rfl) (by rfl) sc__law_refused.nd (by rfl) (by rfl) ⟨by rfl, by decide, .inl T.m_NoName⟩ (takes_of (by rfl) (by rfl) (by rfl) (by rfl)) (fa_cons T.xm_NoName_NoName fa_nil)
 (fun W' pn xe tk' _ => (ss_one (s_do (w_e (e_call (k := 10) (FnD.mk0 (FnOk.mono (ok__law_made T) (by decide)) T.b__law_made T.u__law_made.kp) (hr.mono (by decide)) tk' (by rfl) T.m__law_made (a_cons (e_var (pv 0)) (a_cons (e_var (pv 1)) a_nil)))))))
 (fun a oe cls d pn hz hf => (ss_cons (s_set (fun _ h => ps_set (i := 2) sc__law_refused.nd (by rfl) (by first | exact Or.inl rfl | exact Or.inr rfl) h) (e_and (e_isE (cx := .ref T.C_CallError) (cv := .ref T.C_CallError) (tab := [(1, true)]) hz hf (by rfl) T.z_isinstance (pv 4) (pe_glob (v := .ref T.C_CallError) (by rfl) T.m_CallError rfl) (.own _) (fa_cons ⟨T.eo_NoName, T.ko_NoName_CallError⟩ fa_nil)) (e_one (e_isE (cx := .ty "ValueError") (cv := .type "ValueError") (tab := [(1, true)]) hz hf (by rfl) T.z_isinstance (pv 4) (pe_bltn (v := .ty "ValueError") (by rfl) T.z_ValueError (by decide +kernel) rfl) (.ty _) (fa_cons ⟨T.eo_NoName, T.ko_NoName_ValueError⟩ fa_nil)))))
 (ss_one (s_set (fun _ h => ps_set (i := 3) sc__law_refused.nd (by rfl) (by first | exact Or.inl rfl | exact Or.inr rfl) h) (e_isEt (cs := [.ref T.C_BadOrder, .ref T.C_Misfit, .ref T.C_NoChange, .ref T.C_NoDefault, .ref T.C_NoRow, .ref T.C_NoText, .ref T.C_TooMany, .ref T.C_Twice, .ref T.C_Unknown]) (us := [.ref T.C_BadOrder, .ref T.C_Misfit, .ref T.C_NoChange, .ref T.C_NoDefault, .ref T.C_NoRow, .ref T.C_NoText, .ref T.C_TooMany, .ref T.C_Twice, .ref T.C_Unknown]) (tab := [(1, false)]) hz hf (by rfl) T.z_isinstance (pv 4) (pa_cons (pe_glob (v := .ref T.C_BadOrder) (by rfl) T.m_BadOrder rfl) (pa_cons (pe_glob (v := .ref T.C_Misfit) (by rfl) T.m_Misfit rfl) (pa_cons (pe_glob (v := .ref T.C_NoChange) (by rfl) T.m_NoChange rfl) (pa_cons (pe_glob (v := .ref T.C_NoDefault) (by rfl) T.m_NoDefault rfl) (pa_cons (pe_glob (v := .ref T.C_NoRow) (by rfl) T.m_NoRow rfl) (pa_cons (pe_glob (v := .ref T.C_NoText) (by rfl) T.m_NoText rfl) (pa_cons (pe_glob (v := .ref T.C_TooMany) (by rfl) T.m_TooMany rfl) (pa_cons (pe_glob (v := .ref T.C_Twice) (by rfl) T.m_Twice rfl) (pa_cons (pe_glob (v := .ref T.C_Unknown) (by rfl) T.m_Unknown rfl) pa_nil))))))))) (.cons (.own _) (.cons (.own _) (.cons (.own _) (.cons (.own _) (.cons (.own _) (.cons (.own _) (.cons (.own _) (.cons (.own _) (.cons (.own _) .nil))))))))) (by show 9 ≤ sizeLine; decide) (fa_cons ⟨T.eo_NoName, (kitAny_cons T.ko_NoName_BadOrder (fun _ => (kitAny_cons T.ko_NoName_Misfit (fun _ => (kitAny_cons T.ko_NoName_NoChange (fun _ => (kitAny_cons T.ko_NoName_NoDefault (fun _ => (kitAny_cons T.ko_NoName_NoRow (fun _ => (kitAny_cons T.ko_NoName_NoText (fun _ => (kitAny_cons T.ko_NoName_TooMany (fun _ => (kitAny_cons T.ko_NoName_Twice (fun _ => (kitAny_cons T.ko_NoName_Unknown (fun _ => kitAny_nil) (fun h => nomatch h))) (fun h => nomatch h))) (fun h => nomatch h))) (fun h => nomatch h))) (fun h => nomatch h))) (fun h => nomatch h))) (fun h => nomatch h))) (fun h => nomatch h))) (fun h => nomatch h))⟩ fa_nil)))))))
 (ss_one (s_ret (e_and (e_var (pv 2)) (e_one (e_not (e_var (pv 3))))))))))
theorem sc_law : FnScope n_law p_law (defScope s_law) := ⟨rfl, rfl, rfl, by decide +kernel, rfl, by decide +kernel, by decide +kernel⟩
theorem ok_law (T : Tx K mg) : FnOk P w K mg base (L2.CX P w) 14 T.a_law T.d_law p_law (spD T.Γ 1 den_law) := by
  refine fn_ok (Γ := T.Γ) (k := 13) T.u_law sc_law fun cdv A outer s H E hr => ?_
  exact (ss_cons (s_for (passes_of (by rfl)) (by rfl) (i_list (by rfl) (e_add (by rfl) (w_e (e_slice (by rfl) (w_peek (pv 0)) o_none (o_some e_int))) (w_n (n_lst (a_cons (e_add (by rfl) (w_e (e_call (k := 2) (FnD.mk0 (FnOk.mono (ok__law_nth T) (by decide)) T.b__law_nth T.u__law_nth.kp) (hr.mono (by decide)) (takes_of (by rfl) (by rfl) (by rfl) (by rfl)) (by rfl) T.m__law_nth (a_cons (e_var (pv 0)) (a_cons e_int a_nil)))) (w_e e_int)) a_nil))))) (g_name (pg_name (i := 1) sc_law.nd (by rfl) (by first | exact Or.inl rfl | exact Or.inr rfl))) (ss_cons (s_set (fun _ h => ps_set (i := 2) sc_law.nd (by rfl) (by first | exact Or.inl rfl | exact Or.inr rfl) h) (e_call (k := 4) (FnD.mk0 (FnOk.mono (ok__law_told T) (by decide)) T.b__law_told T.u__law_told.kp) (hr.mono (by decide)) (takes_of (by rfl) (by rfl) (by rfl) (by rfl)) (by rfl) T.m__law_told (a_cons (e_fdiv (w_peek (pv 1)) (w_e e_int)) a_nil)))
 (ss_cons (s_set (fun _ h => ps_set (i := 3) sc_law.nd (by rfl) (by first | exact Or.inl rfl | exact Or.inr rfl) h) (e_add (by rfl) (w_e e_int) (w_e (e_mod (w_e (e_fdiv (w_peek (pv 1)) (w_e e_int))) (w_e e_int)))))
 (ss_cons (s_if (t_not (t_tru (by rfl) (w_e (e_call (k := 6) (FnD.mk0 (FnOk.mono (ok__law_is T) (by decide)) T.b__law_is T.u__law_is.kp) (hr.mono (by decide)) (takes_of (by rfl) (by rfl) (by rfl) (by rfl)) (by rfl) T.m__law_is (a_cons (e_call (k := 10) (FnD.mk0 (FnOk.mono (ok__law_made T) (by decide)) T.b__law_made T.u__law_made.kp) (hr.mono (by decide)) (takes_of (by rfl) (by rfl) (by rfl) (by rfl)) (by rfl) T.m__law_made (a_cons (e_var (pv 2)) (a_cons (e_ix (by rfl) (w_n (n_lst (a_cons (e_var (pv 3)) (a_cons e_int a_nil)))) (w_e (e_mod (w_peek (pv 1)) (w_e e_int)))) a_nil))) (a_cons (e_var (pv 2)) a_nil))))))
 (ss_one (s_ret e_bl))
 ss_nil)
 (ss_cons (s_set (fun _ h => ps_set (i := 4) sc_law.nd (by rfl) (by first | exact Or.inl rfl | exact Or.inr rfl) h) (e_add (by rfl) (w_e (e_tup (a_cons (e_ix (by rfl) (w_peek (pv 2)) (w_e e_int)) (a_cons (e_call (k := 4) (FnD.mk0 (FnOk.mono (ok__law_no_name T) (by decide)) T.b__law_no_name T.u__law_no_name.kp) (hr.mono (by decide)) (takes_of (by rfl) (by rfl) (by rfl) (by rfl)) (by rfl) T.m__law_no_name (a_cons (e_fdiv (w_peek (pv 1)) (w_e e_int)) a_nil)) a_nil)))) (w_e (e_slice (by rfl) (w_peek (pv 2)) (o_some e_int) o_none))))
 (ss_one (s_if (PW.pt (t_or (t_not (t_tru (by rfl) (w_e (e_call (k := 12) (FnD.mk0 (FnOk.mono (ok__law_refused T) (by decide)) T.b__law_refused T.u__law_refused.kp) (hr.mono (by decide)) (takes_of (by rfl) (by rfl) (by rfl) (by rfl)) (by rfl) T.m__law_refused (a_cons (e_var (pv 4)) (a_cons (e_var (pv 3)) a_nil)))))) (t_or1 (t_not (t_tru (by rfl) (w_e (e_call (k := 12) (FnD.mk0 (FnOk.mono (ok__law_refused T) (by decide)) T.b__law_refused T.u__law_refused.kp) (hr.mono (by decide)) (takes_of (by rfl) (by rfl) (by rfl) (by rfl)) (by rfl) T.m__law_refused (a_cons (e_var (pv 4)) (a_cons e_int a_nil)))))))))
 (ss_one (s_ret e_bl))
 ss_nil)))))) (Ghost.kills [1, 2, 3, 4]))
 (ss_one (s_ret e_bl)))
end

/-! g.end -/
def spLaw (K : PySem.W.Frag) : Sp := fun vs H Q _ => ∃ (a : Addr) (ns : List Int), vs = [.ref a] ∧ SqL K H a (ns.map V.int) ∧ ns.length ≤ 63 ∧ ∀ H', Q (.bl true) H'
theorem law_sp {P : Program} {w : World} {K : PySem.W.Frag} {mg : Str → Option Value} {base : Heap} (T : Tx K mg) : FnOk P w K mg base (L2.CX P w) 14 T.a_law T.d_law ["script"] (spLaw K) := FnOk.imp (ok_law T) fun vs H Q E ⟨a, ns, e, q, hl, k⟩ => end_sp law_true e q hl k
theorem all_mk {l : PySem.W.OpenLaw} {w : World} {K : PySem.W.Frag} {h : Heap} {mg : Str → Option Value} {fa : Addr} (X : K.In h) (G : h.Ns mainGlobals mg) (hfa : mg "law" = some (.ref fa))
    {C_CallError : Addr}
    {C_NoName : Addr}
    {C_TooMany : Addr}
    {C_BadOrder : Addr}
    {C_Twice : Addr}
    {C_NoChange : Addr}
    {C_NoDefault : Addr}
    {C_NoText : Addr}
    {C_NoRow : Addr}
    {C_Unknown : Addr}
    {C_Misfit : Addr}
    {C_Parameter : Addr}
    {C_Single : Addr}
    {C_Seat : Addr}
    {C_Both : Addr}
    {C_Tail : Addr}
    {C_Tag : Addr}
    {C_Bag : Addr}
    {f_is_name : Addr} {od_is_name an_is_name : Option Addr} {sl_is_name : Array (Option Value)} {oc_is_name kV_is_name dc_is_name pm_is_name cd_is_name ct_is_name : Value}
    {f_parameter_of : Addr} {od_parameter_of an_parameter_of : Option Addr} {sl_parameter_of : Array (Option Value)} {oc_parameter_of kV_parameter_of dc_parameter_of pm_parameter_of cd_parameter_of ct_parameter_of : Value}
    {f__law_nth : Addr} {od__law_nth an__law_nth : Option Addr} {sl__law_nth : Array (Option Value)} {oc__law_nth kV__law_nth dc__law_nth pm__law_nth cd__law_nth ct__law_nth : Value}
    {f__law_called : Addr} {od__law_called an__law_called : Option Addr} {sl__law_called : Array (Option Value)} {oc__law_called kV__law_called dc__law_called pm__law_called cd__law_called ct__law_called : Value}
    {f__law_no_name : Addr} {od__law_no_name an__law_no_name : Option Addr} {sl__law_no_name : Array (Option Value)} {oc__law_no_name kV__law_no_name dc__law_no_name pm__law_no_name cd__law_no_name ct__law_no_name : Value}
    {f__law_told : Addr} {od__law_told an__law_told : Option Addr} {sl__law_told : Array (Option Value)} {oc__law_told kV__law_told dc__law_told pm__law_told cd__law_told ct__law_told : Value}
    {f__law_by_name : Addr} {od__law_by_name an__law_by_name : Option Addr} {sl__law_by_name : Array (Option Value)} {oc__law_by_name kV__law_by_name dc__law_by_name pm__law_by_name cd__law_by_name ct__law_by_name : Value}
    {f__law_made : Addr} {od__law_made an__law_made : Option Addr} {sl__law_made : Array (Option Value)} {oc__law_made kV__law_made dc__law_made pm__law_made cd__law_made ct__law_made : Value}
    {f__law_sorts : Addr} {od__law_sorts an__law_sorts : Option Addr} {sl__law_sorts : Array (Option Value)} {oc__law_sorts kV__law_sorts dc__law_sorts pm__law_sorts cd__law_sorts ct__law_sorts : Value}
    {f__law_is : Addr} {od__law_is an__law_is : Option Addr} {sl__law_is : Array (Option Value)} {oc__law_is kV__law_is dc__law_is pm__law_is cd__law_is ct__law_is : Value}
    {f__law_refused : Addr} {od__law_refused an__law_refused : Option Addr} {sl__law_refused : Array (Option Value)} {oc__law_refused kV__law_refused dc__law_refused pm__law_refused cd__law_refused ct__law_refused : Value}
    {f_law : Addr} {od_law an_law : Option Addr} {sl_law : Array (Option Value)} {oc_law kV_law dc_law pm_law cd_law ct_law : Value}
    {f_Parameter_init : Addr} {od_Parameter_init an_Parameter_init : Option Addr} {sl_Parameter_init : Array (Option Value)} {oc_Parameter_init kV_Parameter_init dc_Parameter_init pm_Parameter_init cd_Parameter_init ct_Parameter_init : Value}
    {f_Parameter_free : Addr} {od_Parameter_free an_Parameter_free : Option Addr} {sl_Parameter_free : Array (Option Value)} {oc_Parameter_free kV_Parameter_free dc_Parameter_free pm_Parameter_free cd_Parameter_free ct_Parameter_free : Value}
    {f_Parameter_by_place : Addr} {od_Parameter_by_place an_Parameter_by_place : Option Addr} {sl_Parameter_by_place : Array (Option Value)} {oc_Parameter_by_place kV_Parameter_by_place dc_Parameter_by_place pm_Parameter_by_place cd_Parameter_by_place ct_Parameter_by_place : Value}
    {f_Parameter_by_name : Addr} {od_Parameter_by_name an_Parameter_by_name : Option Addr} {sl_Parameter_by_name : Array (Option Value)} {oc_Parameter_by_name kV_Parameter_by_name dc_Parameter_by_name pm_Parameter_by_name cd_Parameter_by_name ct_Parameter_by_name : Value}
    {f_Parameter_told : Addr} {od_Parameter_told an_Parameter_told : Option Addr} {sl_Parameter_told : Array (Option Value)} {oc_Parameter_told kV_Parameter_told dc_Parameter_told pm_Parameter_told cd_Parameter_told ct_Parameter_told : Value}
    {f_Single_init : Addr} {od_Single_init an_Single_init : Option Addr} {sl_Single_init : Array (Option Value)} {oc_Single_init kV_Single_init dc_Single_init pm_Single_init cd_Single_init ct_Single_init : Value}
    {D_Single_init : Addr} {tc_Single_init : Value} {td_Single_init : Option Addr} {tn_Single_init : Nat} {ts_Single_init : Array (Option Value)}
    {f_Single_free : Addr} {od_Single_free an_Single_free : Option Addr} {sl_Single_free : Array (Option Value)} {oc_Single_free kV_Single_free dc_Single_free pm_Single_free cd_Single_free ct_Single_free : Value}
    {f_Single_told : Addr} {od_Single_told an_Single_told : Option Addr} {sl_Single_told : Array (Option Value)} {oc_Single_told kV_Single_told dc_Single_told pm_Single_told cd_Single_told ct_Single_told : Value}
    {f_Seat_word : Addr} {od_Seat_word an_Seat_word : Option Addr} {sl_Seat_word : Array (Option Value)} {oc_Seat_word kV_Seat_word dc_Seat_word pm_Seat_word cd_Seat_word ct_Seat_word : Value}
    {f_Seat_by_place : Addr} {od_Seat_by_place an_Seat_by_place : Option Addr} {sl_Seat_by_place : Array (Option Value)} {oc_Seat_by_place kV_Seat_by_place dc_Seat_by_place pm_Seat_by_place cd_Seat_by_place ct_Seat_by_place : Value}
    {f_Both_word : Addr} {od_Both_word an_Both_word : Option Addr} {sl_Both_word : Array (Option Value)} {oc_Both_word kV_Both_word dc_Both_word pm_Both_word cd_Both_word ct_Both_word : Value}
    {f_Both_by_place : Addr} {od_Both_by_place an_Both_by_place : Option Addr} {sl_Both_by_place : Array (Option Value)} {oc_Both_by_place kV_Both_by_place dc_Both_by_place pm_Both_by_place cd_Both_by_place ct_Both_by_place : Value}
    {f_Both_by_name : Addr} {od_Both_by_name an_Both_by_name : Option Addr} {sl_Both_by_name : Array (Option Value)} {oc_Both_by_name kV_Both_by_name dc_Both_by_name pm_Both_by_name cd_Both_by_name ct_Both_by_name : Value}
    {f_Tail_word : Addr} {od_Tail_word an_Tail_word : Option Addr} {sl_Tail_word : Array (Option Value)} {oc_Tail_word kV_Tail_word dc_Tail_word pm_Tail_word cd_Tail_word ct_Tail_word : Value}
    {f_Tag_word : Addr} {od_Tag_word an_Tag_word : Option Addr} {sl_Tag_word : Array (Option Value)} {oc_Tag_word kV_Tag_word dc_Tag_word pm_Tag_word cd_Tag_word ct_Tag_word : Value}
    {f_Tag_by_name : Addr} {od_Tag_by_name an_Tag_by_name : Option Addr} {sl_Tag_by_name : Array (Option Value)} {oc_Tag_by_name kV_Tag_by_name dc_Tag_by_name pm_Tag_by_name cd_Tag_by_name ct_Tag_by_name : Value}
    {f_Bag_word : Addr} {od_Bag_word an_Bag_word : Option Addr} {sl_Bag_word : Array (Option Value)} {oc_Bag_word kV_Bag_word dc_Bag_word pm_Bag_word cd_Bag_word ct_Bag_word : Value}
    {t_LONGEST : Tok}
    {t_LETTERS : Tok}
    (R_0 : PySem.W.nsIn K mainGlobals "CallError" = some (some (.ref C_CallError)))
    (R_1 : PySem.W.nsIn K mainGlobals "NoName" = some (some (.ref C_NoName)))
    (R_2 : PySem.W.nsIn K mainGlobals "TooMany" = some (some (.ref C_TooMany)))
    (R_3 : PySem.W.nsIn K mainGlobals "BadOrder" = some (some (.ref C_BadOrder)))
    (R_4 : PySem.W.nsIn K mainGlobals "Twice" = some (some (.ref C_Twice)))
    (R_5 : PySem.W.nsIn K mainGlobals "NoChange" = some (some (.ref C_NoChange)))
    (R_6 : PySem.W.nsIn K mainGlobals "NoDefault" = some (some (.ref C_NoDefault)))
    (R_7 : PySem.W.nsIn K mainGlobals "NoText" = some (some (.ref C_NoText)))
    (R_8 : PySem.W.nsIn K mainGlobals "NoRow" = some (some (.ref C_NoRow)))
    (R_9 : PySem.W.nsIn K mainGlobals "Unknown" = some (some (.ref C_Unknown)))
    (R_10 : PySem.W.nsIn K mainGlobals "Misfit" = some (some (.ref C_Misfit)))
    (R_11 : PySem.W.nsIn K mainGlobals "Parameter" = some (some (.ref C_Parameter)))
    (R_12 : PySem.W.nsIn K mainGlobals "Single" = some (some (.ref C_Single)))
    (R_13 : PySem.W.nsIn K mainGlobals "Seat" = some (some (.ref C_Seat)))
    (R_14 : PySem.W.nsIn K mainGlobals "Both" = some (some (.ref C_Both)))
    (R_15 : PySem.W.nsIn K mainGlobals "Tail" = some (some (.ref C_Tail)))
    (R_16 : PySem.W.nsIn K mainGlobals "Tag" = some (some (.ref C_Tag)))
    (R_17 : PySem.W.nsIn K mainGlobals "Bag" = some (some (.ref C_Bag)))
    (R_18 : PySem.W.nsIn K mainGlobals "is_name" = some (some (.ref f_is_name)))
    (L_19 : K.lookup f_is_name = some ⟨oc_is_name, od_is_name, .func (PySem.W.fnOf "is_name" "is_name" (defArgs s_is_name) (defBody s_is_name) (defScope s_is_name) .none kV_is_name dc_is_name pm_is_name an_is_name cd_is_name ct_is_name), sl_is_name⟩)
    (R_20 : PySem.W.codeIn K cd_is_name "is_name" = true)
    (R_21 : PySem.W.keepIn K (.ref f_is_name) = true)
    (R_22 : PySem.W.nsIn K mainGlobals "parameter_of" = some (some (.ref f_parameter_of)))
    (L_23 : K.lookup f_parameter_of = some ⟨oc_parameter_of, od_parameter_of, .func (PySem.W.fnOf "parameter_of" "parameter_of" (defArgs s_parameter_of) (defBody s_parameter_of) (defScope s_parameter_of) .none kV_parameter_of dc_parameter_of pm_parameter_of an_parameter_of cd_parameter_of ct_parameter_of), sl_parameter_of⟩)
    (R_24 : PySem.W.codeIn K cd_parameter_of "parameter_of" = true)
    (R_25 : PySem.W.keepIn K (.ref f_parameter_of) = true)
    (R_26 : PySem.W.nsIn K mainGlobals "_law_nth" = some (some (.ref f__law_nth)))
    (L_27 : K.lookup f__law_nth = some ⟨oc__law_nth, od__law_nth, .func (PySem.W.fnOf "_law_nth" "_law_nth" (defArgs s__law_nth) (defBody s__law_nth) (defScope s__law_nth) .none kV__law_nth dc__law_nth pm__law_nth an__law_nth cd__law_nth ct__law_nth), sl__law_nth⟩)
    (R_28 : PySem.W.codeIn K cd__law_nth "_law_nth" = true)
    (R_29 : PySem.W.keepIn K (.ref f__law_nth) = true)
    (R_30 : PySem.W.nsIn K mainGlobals "_law_called" = some (some (.ref f__law_called)))
    (L_31 : K.lookup f__law_called = some ⟨oc__law_called, od__law_called, .func (PySem.W.fnOf "_law_called" "_law_called" (defArgs s__law_called) (defBody s__law_called) (defScope s__law_called) .none kV__law_called dc__law_called pm__law_called an__law_called cd__law_called ct__law_called), sl__law_called⟩)
    (R_32 : PySem.W.codeIn K cd__law_called "_law_called" = true)
    (R_33 : PySem.W.keepIn K (.ref f__law_called) = true)
    (R_34 : PySem.W.nsIn K mainGlobals "_law_no_name" = some (some (.ref f__law_no_name)))
    (L_35 : K.lookup f__law_no_name = some ⟨oc__law_no_name, od__law_no_name, .func (PySem.W.fnOf "_law_no_name" "_law_no_name" (defArgs s__law_no_name) (defBody s__law_no_name) (defScope s__law_no_name) .none kV__law_no_name dc__law_no_name pm__law_no_name an__law_no_name cd__law_no_name ct__law_no_name), sl__law_no_name⟩)
    (R_36 : PySem.W.codeIn K cd__law_no_name "_law_no_name" = true)
    (R_37 : PySem.W.keepIn K (.ref f__law_no_name) = true)
    (R_38 : PySem.W.nsIn K mainGlobals "_law_told" = some (some (.ref f__law_told)))
    (L_39 : K.lookup f__law_told = some ⟨oc__law_told, od__law_told, .func (PySem.W.fnOf "_law_told" "_law_told" (defArgs s__law_told) (defBody s__law_told) (defScope s__law_told) .none kV__law_told dc__law_told pm__law_told an__law_told cd__law_told ct__law_told), sl__law_told⟩)
    (R_40 : PySem.W.codeIn K cd__law_told "_law_told" = true)
    (R_41 : PySem.W.keepIn K (.ref f__law_told) = true)
    (R_42 : PySem.W.nsIn K mainGlobals "_law_by_name" = some (some (.ref f__law_by_name)))
    (L_43 : K.lookup f__law_by_name = some ⟨oc__law_by_name, od__law_by_name, .func (PySem.W.fnOf "_law_by_name" "_law_by_name" (defArgs s__law_by_name) (defBody s__law_by_name) (defScope s__law_by_name) .none kV__law_by_name dc__law_by_name pm__law_by_name an__law_by_name cd__law_by_name ct__law_by_name), sl__law_by_name⟩)
    (R_44 : PySem.W.codeIn K cd__law_by_name "_law_by_name" = true)
    (R_45 : PySem.W.keepIn K (.ref f__law_by_name) = true)
    (R_46 : PySem.W.nsIn K mainGlobals "_law_made" = some (some (.ref f__law_made)))
    (L_47 : K.lookup f__law_made = some ⟨oc__law_made, od__law_made, .func (PySem.W.fnOf "_law_made" "_law_made" (defArgs s__law_made) (defBody s__law_made) (defScope s__law_made) .none kV__law_made dc__law_made pm__law_made an__law_made cd__law_made ct__law_made), sl__law_made⟩)
    (R_48 : PySem.W.codeIn K cd__law_made "_law_made" = true)
    (R_49 : PySem.W.keepIn K (.ref f__law_made) = true)
    (R_50 : PySem.W.nsIn K mainGlobals "_law_sorts" = some (some (.ref f__law_sorts)))
    (L_51 : K.lookup f__law_sorts = some ⟨oc__law_sorts, od__law_sorts, .func (PySem.W.fnOf "_law_sorts" "_law_sorts" (defArgs s__law_sorts) (defBody s__law_sorts) (defScope s__law_sorts) .none kV__law_sorts dc__law_sorts pm__law_sorts an__law_sorts cd__law_sorts ct__law_sorts), sl__law_sorts⟩)
    (R_52 : PySem.W.codeIn K cd__law_sorts "_law_sorts" = true)
    (R_53 : PySem.W.keepIn K (.ref f__law_sorts) = true)
    (R_54 : PySem.W.nsIn K mainGlobals "_law_is" = some (some (.ref f__law_is)))
    (L_55 : K.lookup f__law_is = some ⟨oc__law_is, od__law_is, .func (PySem.W.fnOf "_law_is" "_law_is" (defArgs s__law_is) (defBody s__law_is) (defScope s__law_is) .none kV__law_is dc__law_is pm__law_is an__law_is cd__law_is ct__law_is), sl__law_is⟩)
    (R_56 : PySem.W.codeIn K cd__law_is "_law_is" = true)
    (R_57 : PySem.W.keepIn K (.ref f__law_is) = true)
    (R_58 : PySem.W.nsIn K mainGlobals "_law_refused" = some (some (.ref f__law_refused)))
    (L_59 : K.lookup f__law_refused = some ⟨oc__law_refused, od__law_refused, .func (PySem.W.fnOf "_law_refused" "_law_refused" (defArgs s__law_refused) (defBody s__law_refused) (defScope s__law_refused) .none kV__law_refused dc__law_refused pm__law_refused an__law_refused cd__law_refused ct__law_refused), sl__law_refused⟩)
    (R_60 : PySem.W.codeIn K cd__law_refused "_law_refused" = true)
    (R_61 : PySem.W.keepIn K (.ref f__law_refused) = true)
    (R_62 : PySem.W.nsIn K mainGlobals "law" = some (some (.ref f_law)))
    (L_63 : K.lookup f_law = some ⟨oc_law, od_law, .func (PySem.W.fnOf "law" "law" (defArgs s_law) (defBody s_law) (defScope s_law) .none kV_law dc_law pm_law an_law cd_law ct_law), sl_law⟩)
    (R_64 : PySem.W.codeIn K cd_law "law" = true)
    (R_65 : PySem.W.keepIn K (.ref f_law) = true)
    (R_66 : PySem.W.findIn K (.ref C_Parameter) "__init__" = some (some (.ref f_Parameter_init)))
    (L_67 : K.lookup f_Parameter_init = some ⟨oc_Parameter_init, od_Parameter_init, .func (PySem.W.fnOf "__init__" "Parameter.__init__" (defArgs s_Parameter_init) (defBody s_Parameter_init) (defScope s_Parameter_init) .none kV_Parameter_init dc_Parameter_init pm_Parameter_init an_Parameter_init cd_Parameter_init ct_Parameter_init), sl_Parameter_init⟩)
    (R_68 : PySem.W.codeIn K cd_Parameter_init "Parameter.__init__" = true)
    (R_69 : PySem.W.keepIn K (.ref f_Parameter_init) = true)
    (R_70 : PySem.W.findIn K (.ref C_Parameter) "free" = some (some (.ref f_Parameter_free)))
    (L_71 : K.lookup f_Parameter_free = some ⟨oc_Parameter_free, od_Parameter_free, .func (PySem.W.fnOf "free" "Parameter.free" (defArgs s_Parameter_free) (defBody s_Parameter_free) (defScope s_Parameter_free) .none kV_Parameter_free dc_Parameter_free pm_Parameter_free an_Parameter_free cd_Parameter_free ct_Parameter_free), sl_Parameter_free⟩)
    (R_72 : PySem.W.codeIn K cd_Parameter_free "Parameter.free" = true)
    (R_73 : PySem.W.keepIn K (.ref f_Parameter_free) = true)
    (R_74 : PySem.W.findIn K (.ref C_Parameter) "by_place" = some (some (.ref f_Parameter_by_place)))
    (L_75 : K.lookup f_Parameter_by_place = some ⟨oc_Parameter_by_place, od_Parameter_by_place, .func (PySem.W.fnOf "by_place" "Parameter.by_place" (defArgs s_Parameter_by_place) (defBody s_Parameter_by_place) (defScope s_Parameter_by_place) .none kV_Parameter_by_place dc_Parameter_by_place pm_Parameter_by_place an_Parameter_by_place cd_Parameter_by_place ct_Parameter_by_place), sl_Parameter_by_place⟩)
    (R_76 : PySem.W.codeIn K cd_Parameter_by_place "Parameter.by_place" = true)
    (R_77 : PySem.W.keepIn K (.ref f_Parameter_by_place) = true)
    (R_78 : PySem.W.findIn K (.ref C_Parameter) "by_name" = some (some (.ref f_Parameter_by_name)))
    (L_79 : K.lookup f_Parameter_by_name = some ⟨oc_Parameter_by_name, od_Parameter_by_name, .func (PySem.W.fnOf "by_name" "Parameter.by_name" (defArgs s_Parameter_by_name) (defBody s_Parameter_by_name) (defScope s_Parameter_by_name) .none kV_Parameter_by_name dc_Parameter_by_name pm_Parameter_by_name an_Parameter_by_name cd_Parameter_by_name ct_Parameter_by_name), sl_Parameter_by_name⟩)
    (R_80 : PySem.W.codeIn K cd_Parameter_by_name "Parameter.by_name" = true)
    (R_81 : PySem.W.keepIn K (.ref f_Parameter_by_name) = true)
    (R_82 : PySem.W.findIn K (.ref C_Parameter) "told" = some (some (.ref f_Parameter_told)))
    (L_83 : K.lookup f_Parameter_told = some ⟨oc_Parameter_told, od_Parameter_told, .func (PySem.W.fnOf "told" "Parameter.told" (defArgs s_Parameter_told) (defBody s_Parameter_told) (defScope s_Parameter_told) .none kV_Parameter_told dc_Parameter_told pm_Parameter_told an_Parameter_told cd_Parameter_told ct_Parameter_told), sl_Parameter_told⟩)
    (R_84 : PySem.W.codeIn K cd_Parameter_told "Parameter.told" = true)
    (R_85 : PySem.W.keepIn K (.ref f_Parameter_told) = true)
    (R_86 : PySem.W.findIn K (.ref C_Single) "__init__" = some (some (.ref f_Single_init)))
    (L_87 : K.lookup f_Single_init = some ⟨oc_Single_init, od_Single_init, .func (PySem.W.fnOf "__init__" "Single.__init__" (defArgs s_Single_init) (defBody s_Single_init) (defScope s_Single_init) (.ref D_Single_init) kV_Single_init dc_Single_init pm_Single_init an_Single_init cd_Single_init ct_Single_init), sl_Single_init⟩)
    (R_88 : K.lookup D_Single_init = some ⟨tc_Single_init, td_Single_init, .seq #[.bool false] tn_Single_init, ts_Single_init⟩)
    (R_89 : PySem.W.codeIn K cd_Single_init "Single.__init__" = true)
    (R_90 : PySem.W.keepIn K (.ref f_Single_init) = true)
    (R_91 : PySem.W.findIn K (.ref C_Single) "free" = some (some (.ref f_Single_free)))
    (L_92 : K.lookup f_Single_free = some ⟨oc_Single_free, od_Single_free, .func (PySem.W.fnOf "free" "Single.free" (defArgs s_Single_free) (defBody s_Single_free) (defScope s_Single_free) .none kV_Single_free dc_Single_free pm_Single_free an_Single_free cd_Single_free ct_Single_free), sl_Single_free⟩)
    (R_93 : PySem.W.codeIn K cd_Single_free "Single.free" = true)
    (R_94 : PySem.W.keepIn K (.ref f_Single_free) = true)
    (R_95 : PySem.W.findIn K (.ref C_Single) "told" = some (some (.ref f_Single_told)))
    (L_96 : K.lookup f_Single_told = some ⟨oc_Single_told, od_Single_told, .func (PySem.W.fnOf "told" "Single.told" (defArgs s_Single_told) (defBody s_Single_told) (defScope s_Single_told) .none kV_Single_told dc_Single_told pm_Single_told an_Single_told cd_Single_told ct_Single_told), sl_Single_told⟩)
    (R_97 : PySem.W.codeIn K cd_Single_told "Single.told" = true)
    (R_98 : PySem.W.keepIn K (.ref f_Single_told) = true)
    (R_99 : PySem.W.findIn K (.ref C_Seat) "word" = some (some (.ref f_Seat_word)))
    (L_100 : K.lookup f_Seat_word = some ⟨oc_Seat_word, od_Seat_word, .func (PySem.W.fnOf "word" "Seat.word" (defArgs s_Seat_word) (defBody s_Seat_word) (defScope s_Seat_word) .none kV_Seat_word dc_Seat_word pm_Seat_word an_Seat_word cd_Seat_word ct_Seat_word), sl_Seat_word⟩)
    (R_101 : PySem.W.codeIn K cd_Seat_word "Seat.word" = true)
    (R_102 : PySem.W.keepIn K (.ref f_Seat_word) = true)
    (R_103 : PySem.W.findIn K (.ref C_Seat) "by_place" = some (some (.ref f_Seat_by_place)))
    (L_104 : K.lookup f_Seat_by_place = some ⟨oc_Seat_by_place, od_Seat_by_place, .func (PySem.W.fnOf "by_place" "Seat.by_place" (defArgs s_Seat_by_place) (defBody s_Seat_by_place) (defScope s_Seat_by_place) .none kV_Seat_by_place dc_Seat_by_place pm_Seat_by_place an_Seat_by_place cd_Seat_by_place ct_Seat_by_place), sl_Seat_by_place⟩)
    (R_105 : PySem.W.codeIn K cd_Seat_by_place "Seat.by_place" = true)
    (R_106 : PySem.W.keepIn K (.ref f_Seat_by_place) = true)
    (R_107 : PySem.W.findIn K (.ref C_Both) "word" = some (some (.ref f_Both_word)))
    (L_108 : K.lookup f_Both_word = some ⟨oc_Both_word, od_Both_word, .func (PySem.W.fnOf "word" "Both.word" (defArgs s_Both_word) (defBody s_Both_word) (defScope s_Both_word) .none kV_Both_word dc_Both_word pm_Both_word an_Both_word cd_Both_word ct_Both_word), sl_Both_word⟩)
    (R_109 : PySem.W.codeIn K cd_Both_word "Both.word" = true)
    (R_110 : PySem.W.keepIn K (.ref f_Both_word) = true)
    (R_111 : PySem.W.findIn K (.ref C_Both) "by_place" = some (some (.ref f_Both_by_place)))
    (L_112 : K.lookup f_Both_by_place = some ⟨oc_Both_by_place, od_Both_by_place, .func (PySem.W.fnOf "by_place" "Both.by_place" (defArgs s_Both_by_place) (defBody s_Both_by_place) (defScope s_Both_by_place) .none kV_Both_by_place dc_Both_by_place pm_Both_by_place an_Both_by_place cd_Both_by_place ct_Both_by_place), sl_Both_by_place⟩)
    (R_113 : PySem.W.codeIn K cd_Both_by_place "Both.by_place" = true)
    (R_114 : PySem.W.keepIn K (.ref f_Both_by_place) = true)
    (R_115 : PySem.W.findIn K (.ref C_Both) "by_name" = some (some (.ref f_Both_by_name)))
    (L_116 : K.lookup f_Both_by_name = some ⟨oc_Both_by_name, od_Both_by_name, .func (PySem.W.fnOf "by_name" "Both.by_name" (defArgs s_Both_by_name) (defBody s_Both_by_name) (defScope s_Both_by_name) .none kV_Both_by_name dc_Both_by_name pm_Both_by_name an_Both_by_name cd_Both_by_name ct_Both_by_name), sl_Both_by_name⟩)
    (R_117 : PySem.W.codeIn K cd_Both_by_name "Both.by_name" = true)
    (R_118 : PySem.W.keepIn K (.ref f_Both_by_name) = true)
    (R_119 : PySem.W.findIn K (.ref C_Tail) "word" = some (some (.ref f_Tail_word)))
    (L_120 : K.lookup f_Tail_word = some ⟨oc_Tail_word, od_Tail_word, .func (PySem.W.fnOf "word" "Tail.word" (defArgs s_Tail_word) (defBody s_Tail_word) (defScope s_Tail_word) .none kV_Tail_word dc_Tail_word pm_Tail_word an_Tail_word cd_Tail_word ct_Tail_word), sl_Tail_word⟩)
    (R_121 : PySem.W.codeIn K cd_Tail_word "Tail.word" = true)
    (R_122 : PySem.W.keepIn K (.ref f_Tail_word) = true)
    (R_123 : PySem.W.findIn K (.ref C_Tag) "word" = some (some (.ref f_Tag_word)))
    (L_124 : K.lookup f_Tag_word = some ⟨oc_Tag_word, od_Tag_word, .func (PySem.W.fnOf "word" "Tag.word" (defArgs s_Tag_word) (defBody s_Tag_word) (defScope s_Tag_word) .none kV_Tag_word dc_Tag_word pm_Tag_word an_Tag_word cd_Tag_word ct_Tag_word), sl_Tag_word⟩)
    (R_125 : PySem.W.codeIn K cd_Tag_word "Tag.word" = true)
    (R_126 : PySem.W.keepIn K (.ref f_Tag_word) = true)
    (R_127 : PySem.W.findIn K (.ref C_Tag) "by_name" = some (some (.ref f_Tag_by_name)))
    (L_128 : K.lookup f_Tag_by_name = some ⟨oc_Tag_by_name, od_Tag_by_name, .func (PySem.W.fnOf "by_name" "Tag.by_name" (defArgs s_Tag_by_name) (defBody s_Tag_by_name) (defScope s_Tag_by_name) .none kV_Tag_by_name dc_Tag_by_name pm_Tag_by_name an_Tag_by_name cd_Tag_by_name ct_Tag_by_name), sl_Tag_by_name⟩)
    (R_129 : PySem.W.codeIn K cd_Tag_by_name "Tag.by_name" = true)
    (R_130 : PySem.W.keepIn K (.ref f_Tag_by_name) = true)
    (R_131 : PySem.W.findIn K (.ref C_Bag) "word" = some (some (.ref f_Bag_word)))
    (L_132 : K.lookup f_Bag_word = some ⟨oc_Bag_word, od_Bag_word, .func (PySem.W.fnOf "word" "Bag.word" (defArgs s_Bag_word) (defBody s_Bag_word) (defScope s_Bag_word) .none kV_Bag_word dc_Bag_word pm_Bag_word an_Bag_word cd_Bag_word ct_Bag_word), sl_Bag_word⟩)
    (R_133 : PySem.W.codeIn K cd_Bag_word "Bag.word" = true)
    (R_134 : PySem.W.keepIn K (.ref f_Bag_word) = true)
    (R_135 : PySem.W.nsIn K mainGlobals "ValueError" = some none)
    (R_136 : PySem.W.nsIn K mainGlobals "all" = some none)
    (R_137 : PySem.W.nsIn K mainGlobals "bool" = some none)
    (R_138 : PySem.W.nsIn K mainGlobals "int" = some none)
    (R_139 : PySem.W.nsIn K mainGlobals "isinstance" = some none)
    (R_140 : PySem.W.nsIn K mainGlobals "len" = some none)
    (R_141 : PySem.W.nsIn K mainGlobals "list" = some none)
    (R_142 : PySem.W.nsIn K mainGlobals "range" = some none)
    (R_143 : PySem.W.nsIn K mainGlobals "str" = some none)
    (R_144 : PySem.W.nsIn K mainGlobals "tuple" = some none)
    (R_145 : PySem.W.nsIn K mainGlobals "LONGEST" = some (some (.int 8 t_LONGEST)))
    (R_146 : PySem.W.nsIn K mainGlobals "LETTERS" = some (some (.str "abcdefghijklmnopqrstuvwxyz" t_LETTERS)))
    (R_147 : PySem.W.isClsIn K C_NoName = true)
    (R_148 : PySem.W.findIn K (.ref C_NoName) "__getattribute__" = some (some (.builtin "BaseException.__getattribute__")))
    (R_149 : PySem.W.findIn K (.ref C_NoName) "__getattr__" = some none)
    (R_150 : PySem.W.subIn K (.ref C_NoName) (.type "BaseException") = some true)
    (R_151 : PySem.W.hasDictIn K C_NoName = true)
    (R_152 : PySem.W.findIn K (.ref C_NoName) "__class__" = some (some (.builtin "object.__class__")))
    (R_153 : PySem.W.specialIn K (.builtin "object.__class__") "__get__" = some (some (.builtin "getset_descriptor.__get__")))
    (R_154 : PySem.W.takesIn K (.builtin "object.__class__") = some true)
    (R_155 : PySem.W.mroIn K C_NoName (.type "object") = some true)
    (R_156 : PySem.W.kitOne K (.ref C_NoName) (.ref C_CallError) = some true)
    (R_157 : PySem.W.kitOne K (.ref C_NoName) (.type "ValueError") = some true)
    (R_158 : PySem.W.kitOne K (.ref C_NoName) (.ref C_Unknown) = some false)
    (R_159 : PySem.W.kitOne K (.ref C_NoName) (.ref C_Twice) = some false)
    (R_160 : PySem.W.kitOne K (.ref C_NoName) (.ref C_TooMany) = some false)
    (R_161 : PySem.W.kitOne K (.ref C_NoName) (.ref C_NoText) = some false)
    (R_162 : PySem.W.kitOne K (.ref C_NoName) (.ref C_NoRow) = some false)
    (R_163 : PySem.W.kitOne K (.ref C_NoName) (.ref C_NoDefault) = some false)
    (R_164 : PySem.W.kitOne K (.ref C_NoName) (.ref C_NoChange) = some false)
    (R_165 : PySem.W.kitOne K (.ref C_NoName) (.ref C_Misfit) = some false)
    (R_166 : PySem.W.kitOne K (.ref C_NoName) (.ref C_BadOrder) = some false)
    (R_167 : PySem.W.typeIn K (.ref C_NoName) = some (.type "type"))
    (R_168 : PySem.W.subIn K (.ref C_NoName) (.ref C_NoName) = some true)
    (R_169 : PySem.W.makesIn K C_Tail = true)
    (R_170 : PySem.W.findIn K (.ref C_Tail) "__init__" = some (some (.ref f_Parameter_init)))
    (R_171 : PySem.W.isFn K (.ref f_Parameter_init) = true)
    (R_172 : PySem.W.keepIn K (.ref C_Tail) = true)
    (R_173 : PySem.W.makesIn K C_Bag = true)
    (R_174 : PySem.W.findIn K (.ref C_Bag) "__init__" = some (some (.ref f_Parameter_init)))
    (R_175 : PySem.W.keepIn K (.ref C_Bag) = true)
    (R_176 : PySem.W.makesIn K C_Seat = true)
    (R_177 : PySem.W.findIn K (.ref C_Seat) "__init__" = some (some (.ref f_Single_init)))
    (R_178 : PySem.W.isFn K (.ref f_Single_init) = true)
    (R_179 : PySem.W.keepIn K (.ref C_Seat) = true)
    (R_180 : PySem.W.makesIn K C_Both = true)
    (R_181 : PySem.W.findIn K (.ref C_Both) "__init__" = some (some (.ref f_Single_init)))
    (R_182 : PySem.W.keepIn K (.ref C_Both) = true)
    (R_183 : PySem.W.makesIn K C_Tag = true)
    (R_184 : PySem.W.findIn K (.ref C_Tag) "__init__" = some (some (.ref f_Single_init)))
    (R_185 : PySem.W.keepIn K (.ref C_Tag) = true)
    (R_186 : PySem.W.readsIn K C_Parameter (.type "type") = true)
    (R_187 : PySem.W.specialIn K (.ref C_Parameter) "__getattribute__" = some (some (.builtin "type.__getattribute__")))
    (R_188 : PySem.W.findCls K (.ref C_Parameter) (.type "type") "__init__" = some (.val (.ref f_Parameter_init)))
    (R_189 : PySem.W.plainGet K C_Seat Str.empty = true)
    (R_190 : PySem.W.hasDictIn K C_Seat = true)
    (R_191 : PySem.W.plainOver K C_Seat = true)
    (R_192 : PySem.W.findIn K (.ref C_Seat) "__setattr__" = some (some (.builtin "object.__setattr__")))
    (R_193 : PySem.W.findIn K (.ref C_Seat) "loose" = some none)
    (R_194 : PySem.W.plainGet K C_Both Str.empty = true)
    (R_195 : PySem.W.hasDictIn K C_Both = true)
    (R_196 : PySem.W.plainOver K C_Both = true)
    (R_197 : PySem.W.findIn K (.ref C_Both) "__setattr__" = some (some (.builtin "object.__setattr__")))
    (R_198 : PySem.W.findIn K (.ref C_Both) "loose" = some none)
    (R_199 : PySem.W.plainGet K C_Tag Str.empty = true)
    (R_200 : PySem.W.hasDictIn K C_Tag = true)
    (R_201 : PySem.W.plainOver K C_Tag = true)
    (R_202 : PySem.W.findIn K (.ref C_Tag) "__setattr__" = some (some (.builtin "object.__setattr__")))
    (R_203 : PySem.W.findIn K (.ref C_Tag) "loose" = some none)
    (R_204 : PySem.W.excIn K C_NoName [.type "ValueError", .type "Exception", .type "BaseException", .type "object"] "ValueError.__new__" = true)
    (R_205 : PySem.W.keepIn K (.ref C_NoName) = true)
    (R_206 : PySem.W.findIn K (.ref C_Seat) "name" = some none)
    (R_207 : PySem.W.findIn K (.ref C_Both) "name" = some none)
    (R_208 : PySem.W.plainGet K C_Tail Str.empty = true)
    (R_209 : PySem.W.hasDictIn K C_Tail = true)
    (R_210 : PySem.W.plainOver K C_Tail = true)
    (R_211 : PySem.W.findIn K (.ref C_Tail) "__setattr__" = some (some (.builtin "object.__setattr__")))
    (R_212 : PySem.W.findIn K (.ref C_Tail) "name" = some none)
    (R_213 : PySem.W.findIn K (.ref C_Tag) "name" = some none)
    (R_214 : PySem.W.plainGet K C_Bag Str.empty = true)
    (R_215 : PySem.W.hasDictIn K C_Bag = true)
    (R_216 : PySem.W.plainOver K C_Bag = true)
    (R_217 : PySem.W.findIn K (.ref C_Bag) "__setattr__" = some (some (.builtin "object.__setattr__")))
    (R_218 : PySem.W.findIn K (.ref C_Bag) "name" = some none)
    (R_219 : PySem.W.findIn K (.ref C_Seat) "told" = some (some (.ref f_Single_told)))
    (R_220 : PySem.W.isFn K (.ref f_Single_told) = true)
    (R_221 : PySem.W.findIn K (.ref C_Both) "told" = some (some (.ref f_Single_told)))
    (R_222 : PySem.W.findIn K (.ref C_Tail) "told" = some (some (.ref f_Parameter_told)))
    (R_223 : PySem.W.isFn K (.ref f_Parameter_told) = true)
    (R_224 : PySem.W.findIn K (.ref C_Tag) "told" = some (some (.ref f_Single_told)))
    (R_225 : PySem.W.findIn K (.ref C_Bag) "told" = some (some (.ref f_Parameter_told)))
    (R_226 : PySem.W.findIn K (.ref C_Seat) "free" = some (some (.ref f_Single_free)))
    (R_227 : PySem.W.isFn K (.ref f_Single_free) = true)
    (R_228 : PySem.W.findIn K (.ref C_Both) "free" = some (some (.ref f_Single_free)))
    (R_229 : PySem.W.findIn K (.ref C_Tail) "free" = some (some (.ref f_Parameter_free)))
    (R_230 : PySem.W.isFn K (.ref f_Parameter_free) = true)
    (R_231 : PySem.W.findIn K (.ref C_Tag) "free" = some (some (.ref f_Single_free)))
    (R_232 : PySem.W.findIn K (.ref C_Bag) "free" = some (some (.ref f_Parameter_free)))
    (R_233 : PySem.W.isFn K (.ref f_Seat_by_place) = true)
    (R_234 : PySem.W.isFn K (.ref f_Both_by_place) = true)
    (R_235 : PySem.W.findIn K (.ref C_Tail) "by_place" = some (some (.ref f_Parameter_by_place)))
    (R_236 : PySem.W.isFn K (.ref f_Parameter_by_place) = true)
    (R_237 : PySem.W.findIn K (.ref C_Tag) "by_place" = some (some (.ref f_Parameter_by_place)))
    (R_238 : PySem.W.findIn K (.ref C_Bag) "by_place" = some (some (.ref f_Parameter_by_place)))
    (R_239 : PySem.W.findIn K (.ref C_Seat) "by_name" = some (some (.ref f_Parameter_by_name)))
    (R_240 : PySem.W.isFn K (.ref f_Parameter_by_name) = true)
    (R_241 : PySem.W.isFn K (.ref f_Both_by_name) = true)
    (R_242 : PySem.W.findIn K (.ref C_Tail) "by_name" = some (some (.ref f_Parameter_by_name)))
    (R_243 : PySem.W.isFn K (.ref f_Tag_by_name) = true)
    (R_244 : PySem.W.findIn K (.ref C_Bag) "by_name" = some (some (.ref f_Parameter_by_name)))
    (R_245 : PySem.W.findIn K (.ref C_Seat) "__class__" = some (some (.builtin "object.__class__")))
    (R_246 : PySem.W.mroIn K C_Seat (.type "object") = some true)
    (R_247 : PySem.W.kitOne K (.ref C_Seat) (.ref C_Seat) = some true)
    (R_248 : PySem.W.findIn K (.ref C_Both) "__class__" = some (some (.builtin "object.__class__")))
    (R_249 : PySem.W.mroIn K C_Both (.type "object") = some true)
    (R_250 : PySem.W.kitOne K (.ref C_Both) (.ref C_Seat) = some false)
    (R_251 : PySem.W.findIn K (.ref C_Tail) "__class__" = some (some (.builtin "object.__class__")))
    (R_252 : PySem.W.mroIn K C_Tail (.type "object") = some true)
    (R_253 : PySem.W.kitOne K (.ref C_Tail) (.ref C_Seat) = some false)
    (R_254 : PySem.W.findIn K (.ref C_Tag) "__class__" = some (some (.builtin "object.__class__")))
    (R_255 : PySem.W.mroIn K C_Tag (.type "object") = some true)
    (R_256 : PySem.W.kitOne K (.ref C_Tag) (.ref C_Seat) = some false)
    (R_257 : PySem.W.findIn K (.ref C_Bag) "__class__" = some (some (.builtin "object.__class__")))
    (R_258 : PySem.W.mroIn K C_Bag (.type "object") = some true)
    (R_259 : PySem.W.kitOne K (.ref C_Bag) (.ref C_Seat) = some false)
    (R_260 : PySem.W.kitOne K (.ref C_Seat) (.ref C_Both) = some false)
    (R_261 : PySem.W.kitOne K (.ref C_Both) (.ref C_Both) = some true)
    (R_262 : PySem.W.kitOne K (.ref C_Tail) (.ref C_Both) = some false)
    (R_263 : PySem.W.kitOne K (.ref C_Tag) (.ref C_Both) = some false)
    (R_264 : PySem.W.kitOne K (.ref C_Bag) (.ref C_Both) = some false)
    (R_265 : PySem.W.kitOne K (.ref C_Seat) (.ref C_Tail) = some false)
    (R_266 : PySem.W.kitOne K (.ref C_Both) (.ref C_Tail) = some false)
    (R_267 : PySem.W.kitOne K (.ref C_Tail) (.ref C_Tail) = some true)
    (R_268 : PySem.W.kitOne K (.ref C_Tag) (.ref C_Tail) = some false)
    (R_269 : PySem.W.kitOne K (.ref C_Bag) (.ref C_Tail) = some false)
    (R_270 : PySem.W.kitOne K (.ref C_Seat) (.ref C_Tag) = some false)
    (R_271 : PySem.W.kitOne K (.ref C_Both) (.ref C_Tag) = some false)
    (R_272 : PySem.W.kitOne K (.ref C_Tail) (.ref C_Tag) = some false)
    (R_273 : PySem.W.kitOne K (.ref C_Tag) (.ref C_Tag) = some true)
    (R_274 : PySem.W.kitOne K (.ref C_Bag) (.ref C_Tag) = some false)
    (R_275 : PySem.W.kitOne K (.ref C_Seat) (.ref C_Bag) = some false)
    (R_276 : PySem.W.kitOne K (.ref C_Both) (.ref C_Bag) = some false)
    (R_277 : PySem.W.kitOne K (.ref C_Tail) (.ref C_Bag) = some false)
    (R_278 : PySem.W.kitOne K (.ref C_Tag) (.ref C_Bag) = some false)
    (R_279 : PySem.W.kitOne K (.ref C_Bag) (.ref C_Bag) = some true)
    (R_280 : PySem.W.kitOne K (.ref C_Seat) (.ref C_Parameter) = some true)
    (R_281 : PySem.W.kitOne K (.ref C_Both) (.ref C_Parameter) = some true)
    (R_282 : PySem.W.kitOne K (.ref C_Tail) (.ref C_Parameter) = some true)
    (R_283 : PySem.W.kitOne K (.ref C_Tag) (.ref C_Parameter) = some true)
    (R_284 : PySem.W.kitOne K (.ref C_Bag) (.ref C_Parameter) = some true)
    (R_285 : PySem.W.isFn K (.ref f_Seat_word) = true)
    (R_286 : PySem.W.isFn K (.ref f_Both_word) = true)
    (R_287 : PySem.W.isFn K (.ref f_Tail_word) = true)
    (R_288 : PySem.W.isFn K (.ref f_Tag_word) = true)
    (R_289 : PySem.W.isFn K (.ref f_Bag_word) = true) :
    ∃ fd : FuncData, (∀ (s : Shared) (v : Value), BindsTo s fd ⟨[v], []⟩ [("script", v)]) ∧ ∀ base : Heap, K.In base → base.Ns mainGlobals mg → FnOk l.prog w K mg base (L2.CX l.prog w) 14 fa fd ["script"] (spLaw K) := by
  have e := hfa.symm.trans (PySem.W.mg_of X G R_62)
  cases e
  have u_is_name := fun_mk (st := s_is_name) L_19 R_20 R_21
  have b_is_name := u_is_name.binds (ps := p_is_name) fun _ _ _ _ _ _ us hl => match us, hl with | [_], _ => rfl
  have u_parameter_of := fun_mk (st := s_parameter_of) L_23 R_24 R_25
  have b_parameter_of := u_parameter_of.binds (ps := p_parameter_of) fun _ _ _ _ _ _ us hl => match us, hl with | [_], _ => rfl
  have u__law_nth := fun_mk (st := s__law_nth) L_27 R_28 R_29
  have b__law_nth := u__law_nth.binds (ps := p__law_nth) fun _ _ _ _ _ _ us hl => match us, hl with | [_, _], _ => rfl
  have u__law_called := fun_mk (st := s__law_called) L_31 R_32 R_33
  have b__law_called := u__law_called.binds (ps := p__law_called) fun _ _ _ _ _ _ us hl => match us, hl with | [_], _ => rfl
  have u__law_no_name := fun_mk (st := s__law_no_name) L_35 R_36 R_37
  have b__law_no_name := u__law_no_name.binds (ps := p__law_no_name) fun _ _ _ _ _ _ us hl => match us, hl with | [_], _ => rfl
  have u__law_told := fun_mk (st := s__law_told) L_39 R_40 R_41
  have b__law_told := u__law_told.binds (ps := p__law_told) fun _ _ _ _ _ _ us hl => match us, hl with | [_], _ => rfl
  have u__law_by_name := fun_mk (st := s__law_by_name) L_43 R_44 R_45
  have b__law_by_name := u__law_by_name.binds (ps := p__law_by_name) fun _ _ _ _ _ _ us hl => match us, hl with | [_], _ => rfl
  have u__law_made := fun_mk (st := s__law_made) L_47 R_48 R_49
  have b__law_made := u__law_made.binds (ps := p__law_made) fun _ _ _ _ _ _ us hl => match us, hl with | [_, _], _ => rfl
  have u__law_sorts := fun_mk (st := s__law_sorts) L_51 R_52 R_53
  have b__law_sorts := u__law_sorts.binds (ps := p__law_sorts) fun _ _ _ _ _ _ us hl => match us, hl with | [_], _ => rfl
  have u__law_is := fun_mk (st := s__law_is) L_55 R_56 R_57
  have b__law_is := u__law_is.binds (ps := p__law_is) fun _ _ _ _ _ _ us hl => match us, hl with | [_, _], _ => rfl
  have u__law_refused := fun_mk (st := s__law_refused) L_59 R_60 R_61
  have b__law_refused := u__law_refused.binds (ps := p__law_refused) fun _ _ _ _ _ _ us hl => match us, hl with | [_, _], _ => rfl
  have u_law := fun_mk (st := s_law) L_63 R_64 R_65
  have b_law := u_law.binds (ps := p_law) fun _ _ _ _ _ _ us hl => match us, hl with | [_], _ => rfl
  have u_Parameter_init := fun_mk (st := s_Parameter_init) L_67 R_68 R_69
  have b_Parameter_init := u_Parameter_init.binds (ps := p_Parameter_init) fun _ _ _ _ _ _ us hl => match us, hl with | [_, _], _ => rfl
  have u_Parameter_free := fun_mk (st := s_Parameter_free) L_71 R_72 R_73
  have b_Parameter_free := u_Parameter_free.binds (ps := p_Parameter_free) fun _ _ _ _ _ _ us hl => match us, hl with | [_], _ => rfl
  have u_Parameter_by_place := fun_mk (st := s_Parameter_by_place) L_75 R_76 R_77
  have b_Parameter_by_place := u_Parameter_by_place.binds (ps := p_Parameter_by_place) fun _ _ _ _ _ _ us hl => match us, hl with | [_], _ => rfl
  have u_Parameter_by_name := fun_mk (st := s_Parameter_by_name) L_79 R_80 R_81
  have b_Parameter_by_name := u_Parameter_by_name.binds (ps := p_Parameter_by_name) fun _ _ _ _ _ _ us hl => match us, hl with | [_], _ => rfl
  have u_Parameter_told := fun_mk (st := s_Parameter_told) L_83 R_84 R_85
  have b_Parameter_told := u_Parameter_told.binds (ps := p_Parameter_told) fun _ _ _ _ _ _ us hl => match us, hl with | [_], _ => rfl
  have u_Single_init : FunD K "__init__" "Single.__init__" (defArgs s_Single_init) (defBody s_Single_init) (defScope s_Single_init) [.bl false] [] f_Single_init _ := ⟨⟨oc_Single_init, od_Single_init, _, kV_Single_init, dc_Single_init, pm_Single_init, an_Single_init, cd_Single_init, ct_Single_init, sl_Single_init, rfl, L_87, R_89, .inr ⟨by simp, D_Single_init, _, [.bool false], tn_Single_init, rfl, R_88, rfl, (.cons rfl .nil)⟩, .inl rfl⟩, R_90⟩
  have b_Single_init_2 := u_Single_init.binds1 (ps := p_Single_init) 2 0 (by simp) rfl fun _ _ _ _ _ _ _ us its hu hi => match us, its, hu, hi with | [_, _], [_], _, _ => ⟨_, rfl, rfl⟩
  have b_Single_init_3 := u_Single_init.binds1 (ps := p_Single_init) 3 1 (by simp) rfl fun _ _ _ _ _ _ _ us its hu hi => match us, its, hu, hi with | [_, _, _], [_], _, _ => ⟨_, rfl, rfl⟩
  have kb_Single_init_2 := (u_Single_init.kbindsD (ps := p_Single_init) 2 ["free"] (fun us its ws => us ++ ws) (by simp) (fun r1 r2 r3 => r1.append r3) fun _ _ _ _ _ _ _ us its ws hu hi hw => match us, its, ws, hu, hi, hw with | [_, _], [_], [_], _, _, _ => ⟨_, rfl, rfl⟩).choose_spec
  have u_Single_free := fun_mk (st := s_Single_free) L_92 R_93 R_94
  have b_Single_free := u_Single_free.binds (ps := p_Single_free) fun _ _ _ _ _ _ us hl => match us, hl with | [_], _ => rfl
  have u_Single_told := fun_mk (st := s_Single_told) L_96 R_97 R_98
  have b_Single_told := u_Single_told.binds (ps := p_Single_told) fun _ _ _ _ _ _ us hl => match us, hl with | [_], _ => rfl
  have u_Seat_word := fun_mk (st := s_Seat_word) L_100 R_101 R_102
  have b_Seat_word := u_Seat_word.binds (ps := p_Seat_word) fun _ _ _ _ _ _ us hl => match us, hl with | [_], _ => rfl
  have u_Seat_by_place := fun_mk (st := s_Seat_by_place) L_104 R_105 R_106
  have b_Seat_by_place := u_Seat_by_place.binds (ps := p_Seat_by_place) fun _ _ _ _ _ _ us hl => match us, hl with | [_], _ => rfl
  have u_Both_word := fun_mk (st := s_Both_word) L_108 R_109 R_110
  have b_Both_word := u_Both_word.binds (ps := p_Both_word) fun _ _ _ _ _ _ us hl => match us, hl with | [_], _ => rfl
  have u_Both_by_place := fun_mk (st := s_Both_by_place) L_112 R_113 R_114
  have b_Both_by_place := u_Both_by_place.binds (ps := p_Both_by_place) fun _ _ _ _ _ _ us hl => match us, hl with | [_], _ => rfl
  have u_Both_by_name := fun_mk (st := s_Both_by_name) L_116 R_117 R_118
  have b_Both_by_name := u_Both_by_name.binds (ps := p_Both_by_name) fun _ _ _ _ _ _ us hl => match us, hl with | [_], _ => rfl
  have u_Tail_word := fun_mk (st := s_Tail_word) L_120 R_121 R_122
  have b_Tail_word := u_Tail_word.binds (ps := p_Tail_word) fun _ _ _ _ _ _ us hl => match us, hl with | [_], _ => rfl
  have u_Tag_word := fun_mk (st := s_Tag_word) L_124 R_125 R_126
  have b_Tag_word := u_Tag_word.binds (ps := p_Tag_word) fun _ _ _ _ _ _ us hl => match us, hl with | [_], _ => rfl
  have u_Tag_by_name := fun_mk (st := s_Tag_by_name) L_128 R_129 R_130
  have b_Tag_by_name := u_Tag_by_name.binds (ps := p_Tag_by_name) fun _ _ _ _ _ _ us hl => match us, hl with | [_], _ => rfl
  have u_Bag_word := fun_mk (st := s_Bag_word) L_132 R_133 R_134
  have b_Bag_word := u_Bag_word.binds (ps := p_Bag_word) fun _ _ _ _ _ _ us hl => match us, hl with | [_], _ => rfl
  exact ⟨PySem.W.fnOf "law" "law" (defArgs s_law) (defBody s_law) (defScope s_law) .none kV_law dc_law pm_law an_law cd_law ct_law, fun s v => .of_eq rfl, fun base _ _ => law_sp { C_CallError := C_CallError, C_NoName := C_NoName, C_TooMany := C_TooMany, C_BadOrder := C_BadOrder, C_Twice := C_Twice, C_NoChange := C_NoChange, C_NoDefault := C_NoDefault, C_NoText := C_NoText, C_NoRow := C_NoRow, C_Unknown := C_Unknown, C_Misfit := C_Misfit, C_Parameter := C_Parameter, C_Single := C_Single, C_Seat := C_Seat, C_Both := C_Both, C_Tail := C_Tail, C_Tag := C_Tag, C_Bag := C_Bag, a_is_name := _, d_is_name := _, u_is_name := u_is_name, b_is_name := b_is_name, m_is_name := PySem.W.mg_of X G R_18, a_parameter_of := _, d_parameter_of := _, u_parameter_of := u_parameter_of, b_parameter_of := b_parameter_of, m_parameter_of := PySem.W.mg_of X G R_22, a__law_nth := _, d__law_nth := _, u__law_nth := u__law_nth, b__law_nth := b__law_nth, m__law_nth := PySem.W.mg_of X G R_26, a__law_called := _, d__law_called := _, u__law_called := u__law_called, b__law_called := b__law_called, m__law_called := PySem.W.mg_of X G R_30, a__law_no_name := _, d__law_no_name := _, u__law_no_name := u__law_no_name, b__law_no_name := b__law_no_name, m__law_no_name := PySem.W.mg_of X G R_34, a__law_told := _, d__law_told := _, u__law_told := u__law_told, b__law_told := b__law_told, m__law_told := PySem.W.mg_of X G R_38, a__law_by_name := _, d__law_by_name := _, u__law_by_name := u__law_by_name, b__law_by_name := b__law_by_name, m__law_by_name := PySem.W.mg_of X G R_42, a__law_made := _, d__law_made := _, u__law_made := u__law_made, b__law_made := b__law_made, m__law_made := PySem.W.mg_of X G R_46, a__law_sorts := _, d__law_sorts := _, u__law_sorts := u__law_sorts, b__law_sorts := b__law_sorts, m__law_sorts := PySem.W.mg_of X G R_50, a__law_is := _, d__law_is := _, u__law_is := u__law_is, b__law_is := b__law_is, m__law_is := PySem.W.mg_of X G R_54, a__law_refused := _, d__law_refused := _, u__law_refused := u__law_refused, b__law_refused := b__law_refused, m__law_refused := PySem.W.mg_of X G R_58, a_law := _, d_law := _, u_law := u_law, b_law := b_law, m_law := PySem.W.mg_of X G R_62, a_Parameter_init := _, d_Parameter_init := _, u_Parameter_init := u_Parameter_init, b_Parameter_init := b_Parameter_init, a_Parameter_free := _, d_Parameter_free := _, u_Parameter_free := u_Parameter_free, b_Parameter_free := b_Parameter_free, a_Parameter_by_place := _, d_Parameter_by_place := _, u_Parameter_by_place := u_Parameter_by_place, b_Parameter_by_place := b_Parameter_by_place, a_Parameter_by_name := _, d_Parameter_by_name := _, u_Parameter_by_name := u_Parameter_by_name, b_Parameter_by_name := b_Parameter_by_name, a_Parameter_told := _, d_Parameter_told := _, u_Parameter_told := u_Parameter_told, b_Parameter_told := b_Parameter_told, a_Single_init := _, d_Single_init := _, u_Single_init := u_Single_init, b_Single_init_2 := b_Single_init_2, b_Single_init_3 := b_Single_init_3, kb_Single_init_2 := kb_Single_init_2, a_Single_free := _, d_Single_free := _, u_Single_free := u_Single_free, b_Single_free := b_Single_free, a_Single_told := _, d_Single_told := _, u_Single_told := u_Single_told, b_Single_told := b_Single_told, a_Seat_word := _, d_Seat_word := _, u_Seat_word := u_Seat_word, b_Seat_word := b_Seat_word, a_Seat_by_place := _, d_Seat_by_place := _, u_Seat_by_place := u_Seat_by_place, b_Seat_by_place := b_Seat_by_place, a_Both_word := _, d_Both_word := _, u_Both_word := u_Both_word, b_Both_word := b_Both_word, a_Both_by_place := _, d_Both_by_place := _, u_Both_by_place := u_Both_by_place, b_Both_by_place := b_Both_by_place, a_Both_by_name := _, d_Both_by_name := _, u_Both_by_name := u_Both_by_name, b_Both_by_name := b_Both_by_name, a_Tail_word := _, d_Tail_word := _, u_Tail_word := u_Tail_word, b_Tail_word := b_Tail_word, a_Tag_word := _, d_Tag_word := _, u_Tag_word := u_Tag_word, b_Tag_word := b_Tag_word, a_Tag_by_name := _, d_Tag_by_name := _, u_Tag_by_name := u_Tag_by_name, b_Tag_by_name := b_Tag_by_name, a_Bag_word := _, d_Bag_word := _, u_Bag_word := u_Bag_word, b_Bag_word := b_Bag_word, z_ValueError := (PySem.W.mg_none_of X G R_135), z_all := (PySem.W.mg_none_of X G R_136), z_bool := (PySem.W.mg_none_of X G R_137), z_int := (PySem.W.mg_none_of X G R_138), z_isinstance := (PySem.W.mg_none_of X G R_139), z_len := (PySem.W.mg_none_of X G R_140), z_list := (PySem.W.mg_none_of X G R_141), z_range := (PySem.W.mg_none_of X G R_142), z_str := (PySem.W.mg_none_of X G R_143), z_tuple := (PySem.W.mg_none_of X G R_144), g_LONGEST := (PySem.W.mg_of X G R_145), t_LONGEST := _, g_LETTERS := (PySem.W.mg_of X G R_146), t_LETTERS := _, m_CallError := (PySem.W.mg_of X G R_0), eo_NoName := ⟨R_147, R_148, R_149, R_150, R_151, R_152, R_153, R_154, R_155⟩, ko_NoName_CallError := R_156, ko_NoName_ValueError := R_157, m_BadOrder := (PySem.W.mg_of X G R_3), m_Misfit := (PySem.W.mg_of X G R_10), m_NoChange := (PySem.W.mg_of X G R_5), m_NoDefault := (PySem.W.mg_of X G R_6), m_NoRow := (PySem.W.mg_of X G R_8), m_NoText := (PySem.W.mg_of X G R_7), m_TooMany := (PySem.W.mg_of X G R_2), m_Twice := (PySem.W.mg_of X G R_4), m_Unknown := (PySem.W.mg_of X G R_9), ko_NoName_Unknown := R_158, ko_NoName_Twice := R_159, ko_NoName_TooMany := R_160, ko_NoName_NoText := R_161, ko_NoName_NoRow := R_162, ko_NoName_NoDefault := R_163, ko_NoName_NoChange := R_164, ko_NoName_Misfit := R_165, ko_NoName_BadOrder := R_166, xm_NoName_NoName := (PySem.W.exm_ref R_150 R_151 R_167 R_168), m_NoName := (PySem.W.mg_of X G R_1), m_Tail := (PySem.W.mg_of X G R_15), mk_Tail := ⟨R_169, R_170, R_171, R_172⟩, m_Bag := (PySem.W.mg_of X G R_17), mk_Bag := ⟨R_173, R_174, R_171, R_175⟩, m_Seat := (PySem.W.mg_of X G R_13), mk_Seat := ⟨R_176, R_177, R_178, R_179⟩, m_Both := (PySem.W.mg_of X G R_14), mk_Both := ⟨R_180, R_181, R_178, R_182⟩, m_Tag := (PySem.W.mg_of X G R_16), mk_Tag := ⟨R_183, R_184, R_178, R_185⟩, m_Parameter := (PySem.W.mg_of X G R_11), ci_Parameter := ⟨⟨R_186, R_187⟩, R_188⟩, cl_Seat := ⟨R_189, R_190, R_191, R_192⟩, na_Seat_loose := R_193, cl_Both := ⟨R_194, R_195, R_196, R_197⟩, na_Both_loose := R_198, cl_Tag := ⟨R_199, R_200, R_201, R_202⟩, na_Tag_loose := R_203, xc_NoName := R_204, kp_NoName := R_205, sb_NoName := R_150, ty_NoName := R_167, na_Seat_name := R_206, na_Both_name := R_207, cl_Tail := ⟨R_208, R_209, R_210, R_211⟩, na_Tail_name := R_212, na_Tag_name := R_213, cl_Bag := ⟨R_214, R_215, R_216, R_217⟩, na_Bag_name := R_218, me_Seat_told := ⟨R_219, R_220, R_98⟩, me_Both_told := ⟨R_221, R_220, R_98⟩, me_Tail_told := ⟨R_222, R_223, R_85⟩, me_Tag_told := ⟨R_224, R_220, R_98⟩, me_Bag_told := ⟨R_225, R_223, R_85⟩, me_Seat_free := ⟨R_226, R_227, R_94⟩, me_Both_free := ⟨R_228, R_227, R_94⟩, me_Tail_free := ⟨R_229, R_230, R_73⟩, me_Tag_free := ⟨R_231, R_227, R_94⟩, me_Bag_free := ⟨R_232, R_230, R_73⟩, me_Seat_by_place := ⟨R_103, R_233, R_106⟩, me_Both_by_place := ⟨R_111, R_234, R_114⟩, me_Tail_by_place := ⟨R_235, R_236, R_77⟩, me_Tag_by_place := ⟨R_237, R_236, R_77⟩, me_Bag_by_place := ⟨R_238, R_236, R_77⟩, me_Seat_by_name := ⟨R_239, R_240, R_81⟩, me_Both_by_name := ⟨R_115, R_241, R_118⟩, me_Tail_by_name := ⟨R_242, R_240, R_81⟩, me_Tag_by_name := ⟨R_127, R_243, R_130⟩, me_Bag_by_name := ⟨R_244, R_240, R_81⟩, kc_Seat := R_245, mo_Seat := R_246, ko_Seat_Seat := R_247, kc_Both := R_248, mo_Both := R_249, ko_Both_Seat := R_250, kc_Tail := R_251, mo_Tail := R_252, ko_Tail_Seat := R_253, kc_Tag := R_254, mo_Tag := R_255, ko_Tag_Seat := R_256, kc_Bag := R_257, mo_Bag := R_258, ko_Bag_Seat := R_259, oc_n := R_153, oc_t := R_154, ko_Seat_Both := R_260, ko_Both_Both := R_261, ko_Tail_Both := R_262, ko_Tag_Both := R_263, ko_Bag_Both := R_264, ko_Seat_Tail := R_265, ko_Both_Tail := R_266, ko_Tail_Tail := R_267, ko_Tag_Tail := R_268, ko_Bag_Tail := R_269, ko_Seat_Tag := R_270, ko_Both_Tag := R_271, ko_Tail_Tag := R_272, ko_Tag_Tag := R_273, ko_Bag_Tag := R_274, ko_Seat_Bag := R_275, ko_Both_Bag := R_276, ko_Tail_Bag := R_277, ko_Tag_Bag := R_278, ko_Bag_Bag := R_279, ko_Seat_Parameter := R_280, ko_Both_Parameter := R_281, ko_Tail_Parameter := R_282, ko_Tag_Parameter := R_283, ko_Bag_Parameter := R_284, me_Seat_word := ⟨R_99, R_285, R_102⟩, me_Both_word := ⟨R_107, R_286, R_110⟩, me_Tail_word := ⟨R_119, R_287, R_122⟩, me_Tag_word := ⟨R_123, R_288, R_126⟩, me_Bag_word := ⟨R_131, R_289, R_134⟩ }⟩
theorem walk {l : PySem.W.OpenLaw} {q : Program} {loose : List Str} {XP : (Str → Option Value) → Heap → Prop} {YP : World → Heap → Prop} {d : DefRec} {K : Params → PySem.W.Frag} (hn : l.most = some 63) (hdf : d.params.defaults = [])
    (hY : ∀ (w : World) (h : Heap), YP w h → (K w.params).In h)
    (F : ∀ (w : World) (mg : Str → Option Value) (fa : Addr) (h : Heap), (K w.params).In h → h.Ns mainGlobals mg → mg d.name = some (.ref fa) →
      ∃ fd : FuncData, (∀ (s : Shared) (u : Value), BindsTo s fd ⟨[u], []⟩ [("script", u)]) ∧ ∀ base : Heap, (K w.params).In base → base.Ns mainGlobals mg → FnOk l.prog w (K w.params) mg base (L2.CX l.prog w) 14 fa fd ["script"] (spLaw (K w.params))) :
    PySem.W.WalkO q loose XP YP l.row.toRowW d [] (fun f vs => PySem.call f vs) :=
  L2.walk_of (n := 63) (k := 14) (x := "script") (CX := fun w => L2.CX l.prog w) (sp := fun w => spLaw (K w.params)) hn (by decide) hdf ⟨rfl, by decide, by decide⟩ hY F (fun _ _ a ns hl _ hS => ⟨a, ns, rfl, hS, hl, fun _ => rfl⟩) fun _ _ _ _ _ ⟨_, _, _, _, _, _, _, _, _, _, _, _, z⟩ => z
end Lw
open PySem PySem.W PyProof.Rows
set_option maxRecDepth 100000 in
set_option maxHeartbeats 0 in
theorem PySem.Challenge.cw_callbinds_k12_parameters_holds : PySem.Challenge.rw_callbinds_k12_parameters.Holds := by
  w_on; o_law; k_head; (case hw => w_witness2)
  k_fill
  refine Lw.walk (l := PySem.Challenge.rw_callbinds_k12_parameters) rfl rfl (fun w h Y => PySem.W.kIn_of Y) ?F
  case F =>
    intro w mg fa h KX G hmg
    refine' Lw.all_mk KX G hmg ?R_0 ?R_1 ?R_2 ?R_3 ?R_4 ?R_5 ?R_6 ?R_7 ?R_8 ?R_9 ?R_10 ?R_11 ?R_12 ?R_13 ?R_14 ?R_15 ?R_16 ?R_17 ?R_18 ?L_19 ?R_20 ?R_21 ?R_22 ?L_23 ?R_24 ?R_25 ?R_26 ?L_27 ?R_28 ?R_29 ?R_30 ?L_31 ?R_32 ?R_33 ?R_34 ?L_35 ?R_36 ?R_37 ?R_38 ?L_39 ?R_40 ?R_41 ?R_42 ?L_43 ?R_44 ?R_45 ?R_46 ?L_47 ?R_48 ?R_49 ?R_50 ?L_51 ?R_52 ?R_53 ?R_54 ?L_55 ?R_56 ?R_57 ?R_58 ?L_59 ?R_60 ?R_61 ?R_62 ?L_63 ?R_64 ?R_65 ?R_66 ?L_67 ?R_68 ?R_69 ?R_70 ?L_71 ?R_72 ?R_73 ?R_74 ?L_75 ?R_76 ?R_77 ?R_78 ?L_79 ?R_80 ?R_81 ?R_82 ?L_83 ?R_84 ?R_85 ?R_86 ?L_87 ?R_88 ?R_89 ?R_90 ?R_91 ?L_92 ?R_93 ?R_94 ?R_95 ?L_96 ?R_97 ?R_98 ?R_99 ?L_100 ?R_101 ?R_102 ?R_103 ?L_104 ?R_105 ?R_106 ?R_107 ?L_108 ?R_109 ?R_110 ?R_111 ?L_112 ?R_113 ?R_114 ?R_115 ?L_116 ?R_117 ?R_118 ?R_119 ?L_120 ?R_121 ?R_122 ?R_123 ?L_124 ?R_125 ?R_126 ?R_127 ?L_128 ?R_129 ?R_130 ?R_131 ?L_132 ?R_133 ?R_134 ?R_135 ?R_136 ?R_137 ?R_138 ?R_139 ?R_140 ?R_141 ?R_142 ?R_143 ?R_144 ?R_145 ?R_146 ?R_147 ?R_148 ?R_149 ?R_150 ?R_151 ?R_152 ?R_153 ?R_154 ?R_155 ?R_156 ?R_157 ?R_158 ?R_159 ?R_160 ?R_161 ?R_162 ?R_163 ?R_164 ?R_165 ?R_166 ?R_167 ?R_168 ?R_169 ?R_170 ?R_171 ?R_172 ?R_173 ?R_174 ?R_175 ?R_176 ?R_177 ?R_178 ?R_179 ?R_180 ?R_181 ?R_182 ?R_183 ?R_184 ?R_185 ?R_186 ?R_187 ?R_188 ?R_189 ?R_190 ?R_191 ?R_192 ?R_193 ?R_194 ?R_195 ?R_196 ?R_197 ?R_198 ?R_199 ?R_200 ?R_201 ?R_202 ?R_203 ?R_204 ?R_205 ?R_206 ?R_207 ?R_208 ?R_209 ?R_210 ?R_211 ?R_212 ?R_213 ?R_214 ?R_215 ?R_216 ?R_217 ?R_218 ?R_219 ?R_220 ?R_221 ?R_222 ?R_223 ?R_224 ?R_225 ?R_226 ?R_227 ?R_228 ?R_229 ?R_230 ?R_231 ?R_232 ?R_233 ?R_234 ?R_235 ?R_236 ?R_237 ?R_238 ?R_239 ?R_240 ?R_241 ?R_242 ?R_243 ?R_244 ?R_245 ?R_246 ?R_247 ?R_248 ?R_249 ?R_250 ?R_251 ?R_252 ?R_253 ?R_254 ?R_255 ?R_256 ?R_257 ?R_258 ?R_259 ?R_260 ?R_261 ?R_262 ?R_263 ?R_264 ?R_265 ?R_266 ?R_267 ?R_268 ?R_269 ?R_270 ?R_271 ?R_272 ?R_273 ?R_274 ?R_275 ?R_276 ?R_277 ?R_278 ?R_279 ?R_280 ?R_281 ?R_282 ?R_283 ?R_284 ?R_285 ?R_286 ?R_287 ?R_288 ?R_289
    (case R_0 => k_is)
    (case R_1 => k_is)
    (case R_2 => k_is)
    (case R_3 => k_is)
    (case R_4 => k_is)
    (case R_5 => k_is)
    (case R_6 => k_is)
    (case R_7 => k_is)
    (case R_8 => k_is)
    (case R_9 => k_is)
    (case R_10 => k_is)
    (case R_11 => k_is)
    (case R_12 => k_is)
    (case R_13 => k_is)
    (case R_14 => k_is)
    (case R_15 => k_is)
    (case R_16 => k_is)
    (case R_17 => k_is)
    (case R_18 => k_is)
    (case L_19 => k_is)
    (case R_20 => k_is)
    (case R_21 => k_is)
    (case R_22 => k_is)
    (case L_23 => k_is)
    (case R_24 => k_is)
    (case R_25 => k_is)
    (case R_26 => k_is)
    (case L_27 => k_is)
    (case R_28 => k_is)
    (case R_29 => k_is)
    (case R_30 => k_is)
    (case L_31 => k_is)
    (case R_32 => k_is)
    (case R_33 => k_is)
    (case R_34 => k_is)
    (case L_35 => k_is)
    (case R_36 => k_is)
    (case R_37 => k_is)
    (case R_38 => k_is)
    (case L_39 => k_is)
    (case R_40 => k_is)
    (case R_41 => k_is)
    (case R_42 => k_is)
    (case L_43 => k_is)
    (case R_44 => k_is)
    (case R_45 => k_is)
    (case R_46 => k_is)
    (case L_47 => k_is)
    (case R_48 => k_is)
    (case R_49 => k_is)
    (case R_50 => k_is)
    (case L_51 => k_is)
    (case R_52 => k_is)
    (case R_53 => k_is)
    (case R_54 => k_is)
    (case L_55 => k_is)
    (case R_56 => k_is)
    (case R_57 => k_is)
    (case R_58 => k_is)
    (case L_59 => k_is)
    (case R_60 => k_is)
    (case R_61 => k_is)
    (case R_62 => k_is)
    (case L_63 => k_is)
    (case R_64 => k_is)
    (case R_65 => k_is)
    (case R_66 => k_is)
    (case L_67 => k_is)
    (case R_68 => k_is)
    (case R_69 => k_is)
    (case R_70 => k_is)
    (case L_71 => k_is)
    (case R_72 => k_is)
    (case R_73 => k_is)
    (case R_74 => k_is)
    (case L_75 => k_is)
    (case R_76 => k_is)
    (case R_77 => k_is)
    (case R_78 => k_is)
    (case L_79 => k_is)
    (case R_80 => k_is)
    (case R_81 => k_is)
    (case R_82 => k_is)
    (case L_83 => k_is)
    (case R_84 => k_is)
    (case R_85 => k_is)
    (case R_86 => k_is)
    (case L_87 => k_is)
    (case R_88 => k_is)
    (case R_89 => k_is)
    (case R_90 => k_is)
    (case R_91 => k_is)
    (case L_92 => k_is)
    (case R_93 => k_is)
    (case R_94 => k_is)
    (case R_95 => k_is)
    (case L_96 => k_is)
    (case R_97 => k_is)
    (case R_98 => k_is)
    (case R_99 => k_is)
    (case L_100 => k_is)
    (case R_101 => k_is)
    (case R_102 => k_is)
    (case R_103 => k_is)
    (case L_104 => k_is)
    (case R_105 => k_is)
    (case R_106 => k_is)
    (case R_107 => k_is)
    (case L_108 => k_is)
    (case R_109 => k_is)
    (case R_110 => k_is)
    (case R_111 => k_is)
    (case L_112 => k_is)
    (case R_113 => k_is)
    (case R_114 => k_is)
    (case R_115 => k_is)
    (case L_116 => k_is)
    (case R_117 => k_is)
    (case R_118 => k_is)
    (case R_119 => k_is)
    (case L_120 => k_is)
    (case R_121 => k_is)
    (case R_122 => k_is)
    (case R_123 => k_is)
    (case L_124 => k_is)
    (case R_125 => k_is)
    (case R_126 => k_is)
    (case R_127 => k_is)
    (case L_128 => k_is)
    (case R_129 => k_is)
    (case R_130 => k_is)
    (case R_131 => k_is)
    (case L_132 => k_is)
    (case R_133 => k_is)
    (case R_134 => k_is)
    (case R_135 => k_is)
    (case R_136 => k_is)
    (case R_137 => k_is)
    (case R_138 => k_is)
    (case R_139 => k_is)
    (case R_140 => k_is)
    (case R_141 => k_is)
    (case R_142 => k_is)
    (case R_143 => k_is)
    (case R_144 => k_is)
    (case R_145 => k_is)
    (case R_146 => k_is)
    (case R_147 => k_is)
    (case R_148 => k_is)
    (case R_149 => k_is)
    (case R_150 => k_is)
    (case R_151 => k_is)
    (case R_152 => k_is)
    (case R_153 => k_is)
    (case R_154 => k_is)
    (case R_155 => k_is)
    (case R_156 => kit_is)
    (case R_157 => kit_is)
    (case R_158 => kit_is)
    (case R_159 => kit_is)
    (case R_160 => kit_is)
    (case R_161 => kit_is)
    (case R_162 => kit_is)
    (case R_163 => kit_is)
    (case R_164 => kit_is)
    (case R_165 => kit_is)
    (case R_166 => kit_is)
    (case R_167 => k_is)
    (case R_168 => k_is)
    (case R_169 => k_is)
    (case R_170 => k_is)
    (case R_171 => k_is)
    (case R_172 => k_is)
    (case R_173 => k_is)
    (case R_174 => k_is)
    (case R_175 => k_is)
    (case R_176 => k_is)
    (case R_177 => k_is)
    (case R_178 => k_is)
    (case R_179 => k_is)
    (case R_180 => k_is)
    (case R_181 => k_is)
    (case R_182 => k_is)
    (case R_183 => k_is)
    (case R_184 => k_is)
    (case R_185 => k_is)
    (case R_186 => k_is)
    (case R_187 => k_is)
    (case R_188 => k_is)
    (case R_189 => k_is)
    (case R_190 => k_is)
    (case R_191 => k_is)
    (case R_192 => k_is)
    (case R_193 => k_is)
    (case R_194 => k_is)
    (case R_195 => k_is)
    (case R_196 => k_is)
    (case R_197 => k_is)
    (case R_198 => k_is)
    (case R_199 => k_is)
    (case R_200 => k_is)
    (case R_201 => k_is)
    (case R_202 => k_is)
    (case R_203 => k_is)
    (case R_204 => k_exc)
    (case R_205 => k_is)
    (case R_206 => k_is)
    (case R_207 => k_is)
    (case R_208 => k_is)
    (case R_209 => k_is)
    (case R_210 => k_is)
    (case R_211 => k_is)
    (case R_212 => k_is)
    (case R_213 => k_is)
    (case R_214 => k_is)
    (case R_215 => k_is)
    (case R_216 => k_is)
    (case R_217 => k_is)
    (case R_218 => k_is)
    (case R_219 => k_is)
    (case R_220 => k_is)
    (case R_221 => k_is)
    (case R_222 => k_is)
    (case R_223 => k_is)
    (case R_224 => k_is)
    (case R_225 => k_is)
    (case R_226 => k_is)
    (case R_227 => k_is)
    (case R_228 => k_is)
    (case R_229 => k_is)
    (case R_230 => k_is)
    (case R_231 => k_is)
    (case R_232 => k_is)
    (case R_233 => k_is)
    (case R_234 => k_is)
    (case R_235 => k_is)
    (case R_236 => k_is)
    (case R_237 => k_is)
    (case R_238 => k_is)
    (case R_239 => k_is)
    (case R_240 => k_is)
    (case R_241 => k_is)
    (case R_242 => k_is)
    (case R_243 => k_is)
    (case R_244 => k_is)
    (case R_245 => k_is)
    (case R_246 => k_is)
    (case R_247 => kit_is)
    (case R_248 => k_is)
    (case R_249 => k_is)
    (case R_250 => kit_is)
    (case R_251 => k_is)
    (case R_252 => k_is)
    (case R_253 => kit_is)
    (case R_254 => k_is)
    (case R_255 => k_is)
    (case R_256 => kit_is)
    (case R_257 => k_is)
    (case R_258 => k_is)
    (case R_259 => kit_is)
    (case R_260 => kit_is)
    (case R_261 => kit_is)
    (case R_262 => kit_is)
    (case R_263 => kit_is)
    (case R_264 => kit_is)
    (case R_265 => kit_is)
    (case R_266 => kit_is)
    (case R_267 => kit_is)
    (case R_268 => kit_is)
    (case R_269 => kit_is)
    (case R_270 => kit_is)
    (case R_271 => kit_is)
    (case R_272 => kit_is)
    (case R_273 => kit_is)
    (case R_274 => kit_is)
    (case R_275 => kit_is)
    (case R_276 => kit_is)
    (case R_277 => kit_is)
    (case R_278 => kit_is)
    (case R_279 => kit_is)
    (case R_280 => kit_is)
    (case R_281 => kit_is)
    (case R_282 => kit_is)
    (case R_283 => kit_is)
    (case R_284 => kit_is)
    (case R_285 => k_is)
    (case R_286 => k_is)
    (case R_287 => k_is)
    (case R_288 => k_is)
    (case R_289 => k_is)
#print axioms PySem.Challenge.cw_callbinds_k12_parameters_holds

