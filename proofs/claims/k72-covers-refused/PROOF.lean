import PyProof.Rows.All
import Wide.All
import OpenK.AllK
import Wide.FinOn
import HandS.ForMost
import HandS.ForExc
import HandS.IsInst
import HandS.Deep
import HandS.Style
import HandS.Small
import HandS.Flow
import HandS.Wide
import HandS.Walk
import HandS.Defaults
import HandS.MakeKw
import HandS.ExcOwn
import HandS.ExcIs
import HandS.ExcInit
import HandS.ExcField
import HandS.TryOnly
import HandS.ClsMeth
import KE.KExcIs
import KE.KStateDown
import HandS.Head0
import HandS.Head1
import HandS.Head2
import HandS.HeadEnd
import HandS.HeadHook1
import HandS.HeadHook2
import HandS.HeadHook3
import HandS.HeadHook4
import PySem.Challenge.RW_callbinds_k72_covers_refused
set_option Elab.async false
set_option maxRecDepth 100000
set_option linter.all false
set_option maxHeartbeats 4000000
/-! Den1.lean -/
namespace Dn
open PySem PySem.Spec PyProof.Rows L2

/-- data without addresses -/
inductive D where
  | non | bl (b : Bool) | int (i : Int) | str (s : Str) | ty (n : String) | cl (c : Nat) | scr (ns : List Int)
  | lst (ds : List D) | tup (ds : List D) | obj (c : Nat) (ds : List D) | dic (ks : List Key) (ds : List D)

def sOk (s : Str) : Bool := decide (s.length ≤ sizeLine) && PyData.strOk s
/-- the classes' addresses and their instances' attributes in order -/
structure Gm where
  K : PySem.W.Frag
  cls : Nat → Addr
  flds : Nat → List Str
  /-- in an except suite: the caught exception, its class, its dict -/
  xa : Option (Addr × Value × Option Addr) := none

mutual
/-- v stands for d over F -/
def Rep (Γ : Gm) (F : Hp) : D → V → Prop
  | .non, v => v = .non
  | .bl b, v => v = .bl b
  | .int i, v => v = .int i
  | .str s, v => v = .str s ∧ sOk s = true
  | .ty n, v => v = .ty n
  | .cl c, v => v = .ref (Γ.cls c)
  | .scr ns, v => ∃ a, v = .ref a ∧ ns.length ≤ sizeLine ∧ SqL Γ.K F a (ns.map V.int) ∧ ((∃ xs, F a = some (.lst xs)) ∨ (∃ o xs, F a = some (.frz o (.lst xs))) ∨ ∃ o, Γ.K.lookup a = some o ∧ o.cls = .type "list")
  | .lst ds, v => ∃ a vs, v = .ref a ∧ F a = some (.lst vs) ∧ ds.length ≤ sizeLine ∧ Reps Γ F ds vs
  | .tup ds, v => ∃ a vs, v = .ref a ∧ SqT Γ.K F a vs ∧ ds.length ≤ sizeLine ∧ Reps Γ F ds vs
  | .obj c ds, v => ∃ a dx fs, v = .ref a ∧ F a = some (.ins (Γ.cls c) dx fs) ∧ fs.map (·.1) = Γ.flds c ∧ Reps Γ F ds (fs.map (·.2))
  | .dic ks ds, v => ∃ a kvs, v = .ref a ∧ F a = some (.dK kvs) ∧ kvs.map (·.1) = ks ∧ kvs.length ≤ sizeLine ∧ Reps Γ F ds (kvs.map (·.2))
def Reps (Γ : Gm) (F : Hp) : List D → List V → Prop
  | [], vs => vs = []
  | d :: ds, vs => ∃ v r, vs = v :: r ∧ Rep Γ F d v ∧ Reps Γ F ds r
end

theorem Reps.length {Γ : Gm} {F : Hp} : ∀ {ds : List D} {vs : List V}, Reps Γ F ds vs → vs.length = ds.length
  | [], vs, h => by rw [Reps] at h; subst h; rfl
  | d :: ds, vs, h => by
    rw [Reps] at h
    obtain ⟨v, r, rfl, _, h⟩ := h
    simp [Reps.length h]
theorem Reps.nil {Γ : Gm} {F : Hp} : Reps Γ F [] [] := by rw [Reps]
theorem Reps.cons {Γ : Gm} {F : Hp} {d : D} {v : V} {ds : List D} {vs : List V} (h : Rep Γ F d v) (t : Reps Γ F ds vs) : Reps Γ F (d :: ds) (v :: vs) := by
  rw [Reps]; exact ⟨v, vs, rfl, h, t⟩
theorem Reps.nil_inv {Γ : Gm} {F : Hp} {vs : List V} (h : Reps Γ F [] vs) : vs = [] := by rw [Reps] at h; exact h
theorem Reps.cons_inv {Γ : Gm} {F : Hp} {d : D} {ds : List D} {vs : List V} (h : Reps Γ F (d :: ds) vs) : ∃ v r, vs = v :: r ∧ Rep Γ F d v ∧ Reps Γ F ds r := by rw [Reps] at h; exact h
theorem Reps.append {Γ : Gm} {F : Hp} : ∀ {ds es : List D} {vs ws : List V}, Reps Γ F ds vs → Reps Γ F es ws → Reps Γ F (ds ++ es) (vs ++ ws)
  | [], es, vs, ws, h, k => by rw [h.nil_inv]; exact k
  | d :: ds, es, vs, ws, h, k => by
    obtain ⟨v, r, rfl, h1, h2⟩ := h.cons_inv
    exact .cons h1 (Reps.append h2 k)
theorem Reps.get {Γ : Gm} {F : Hp} : ∀ {ds : List D} {vs : List V} {i : Nat} {d : D}, Reps Γ F ds vs → ds[i]? = some d → ∃ v, vs[i]? = some v ∧ Rep Γ F d v
  | [], _, _, _, _, e => by simp at e
  | _ :: _, _, 0, _, h, e => by
    obtain ⟨v, r, rfl, h1, h2⟩ := h.cons_inv
    simp at e; subst e; exact ⟨v, rfl, h1⟩
  | _ :: ds, _, i + 1, d, h, e => by
    obtain ⟨v, r, rfl, h1, h2⟩ := h.cons_inv
    obtain ⟨u, a, b⟩ := Reps.get (i := i) h2 (by simpa using e)
    exact ⟨u, by simpa using a, b⟩
theorem Reps.getV {Γ : Gm} {F : Hp} {ds : List D} {vs : List V} {i : Nat} {v : V} (h : Reps Γ F ds vs) (e : vs[i]? = some v) : ∃ d, ds[i]? = some d ∧ Rep Γ F d v := by
  have hl : i < ds.length := by rw [← h.length]; exact (List.getElem?_eq_some_iff.mp e).1
  obtain ⟨u, a, b⟩ := h.get (i := i) (d := ds[i]) (by simp [hl])
  rw [e] at a; cases a
  exact ⟨_, by simp [hl], b⟩
theorem Reps.take {Γ : Gm} {F : Hp} : ∀ {ds : List D} {vs : List V} (n : Nat), Reps Γ F ds vs → Reps Γ F (ds.take n) (vs.take n)
  | _, _, 0, _ => by simp; exact .nil
  | [], _, n + 1, h => by rw [h.nil_inv]; simp; exact .nil
  | d :: ds, _, n + 1, h => by
    obtain ⟨v, r, rfl, h1, h2⟩ := h.cons_inv
    exact .cons h1 (Reps.take n h2)
theorem Reps.drop {Γ : Gm} {F : Hp} : ∀ {ds : List D} {vs : List V} (n : Nat), Reps Γ F ds vs → Reps Γ F (ds.drop n) (vs.drop n)
  | _, _, 0, h => by simpa using h
  | [], _, n + 1, h => by rw [h.nil_inv]; simp; exact .nil
  | d :: ds, _, n + 1, h => by
    obtain ⟨v, r, rfl, h1, h2⟩ := h.cons_inv
    simpa using Reps.drop n h2
theorem Reps.reverse {Γ : Gm} {F : Hp} : ∀ {ds : List D} {vs : List V}, Reps Γ F ds vs → Reps Γ F ds.reverse vs.reverse
  | [], _, h => by rw [h.nil_inv]; exact .nil
  | d :: ds, _, h => by
    obtain ⟨v, r, rfl, h1, h2⟩ := h.cons_inv
    rw [List.reverse_cons, List.reverse_cons]
    exact (Reps.reverse h2).append (.cons h1 .nil)
theorem Reps.dropLast {Γ : Gm} {F : Hp} {ds : List D} {vs : List V} (h : Reps Γ F ds vs) : Reps Γ F ds.dropLast vs.dropLast := by
  rw [List.dropLast_eq_take, List.dropLast_eq_take, h.length]; exact h.take _
theorem Reps.set {Γ : Gm} {F : Hp} {d : D} {v : V} (k : Rep Γ F d v) : ∀ {ds : List D} {vs : List V} (i : Nat), Reps Γ F ds vs → Reps Γ F (ds.set i d) (vs.set i v)
  | [], _, _, h => by rw [h.nil_inv]; exact .nil
  | e :: ds, _, 0, h => by
    obtain ⟨u, r, rfl, h1, h2⟩ := h.cons_inv
    exact .cons k h2
  | e :: ds, _, i + 1, h => by
    obtain ⟨u, r, rfl, h1, h2⟩ := h.cons_inv
    exact .cons h1 (Reps.set k i h2)

theorem Same.sqt {K : PySem.W.Frag} {H H' : Hp} {a : Addr} {xs : List V} (e : Same H H') (h : SqT K H a xs) : SqT K H' a xs := by
  rcases h with (h | ⟨o, h⟩) | h
  · exact .inl (.inl (e _ _ h))
  · exact .inl (.inr ⟨o, e _ _ h⟩)
  · exact .inr h
mutual
theorem Rep.mono {Γ : Gm} {F F' : Hp} (s : Same F F') : ∀ (d : D) (v : V), Rep Γ F d v → Rep Γ F' d v
  | .non, _, h => by rw [Rep] at h ⊢; exact h
  | .bl _, _, h => by rw [Rep] at h ⊢; exact h
  | .int _, _, h => by rw [Rep] at h ⊢; exact h
  | .str _, _, h => by rw [Rep] at h ⊢; exact h
  | .ty _, _, h => by rw [Rep] at h ⊢; exact h
  | .cl _, _, h => by rw [Rep] at h ⊢; exact h
  | .scr _, _, h => by
    rw [Rep] at h ⊢
    obtain ⟨a, e, l, q, z⟩ := h
    refine ⟨a, e, l, s.seq q, ?_⟩
    rcases z with ⟨xs, z⟩ | ⟨o, xs, z⟩ | z
    · exact .inl ⟨xs, s _ _ z⟩
    · exact .inr (.inl ⟨o, xs, s _ _ z⟩)
    · exact .inr (.inr z)
  | .lst ds, _, h => by
    rw [Rep] at h ⊢
    obtain ⟨a, vs, e, q, l, r⟩ := h
    exact ⟨a, vs, e, s _ _ q, l, Reps.mono s ds vs r⟩
  | .tup ds, _, h => by
    rw [Rep] at h ⊢
    obtain ⟨a, vs, e, q, l, r⟩ := h
    exact ⟨a, vs, e, Same.sqt s q, l, Reps.mono s ds vs r⟩
  | .obj c ds, _, h => by
    rw [Rep] at h ⊢
    obtain ⟨a, dx, fs, e, q, l, r⟩ := h
    exact ⟨a, dx, fs, e, s _ _ q, l, Reps.mono s ds _ r⟩
  | .dic ks ds, _, h => by
    rw [Rep] at h ⊢
    obtain ⟨a, kvs, e, q, l, z, r⟩ := h
    exact ⟨a, kvs, e, s _ _ q, l, z, Reps.mono s ds _ r⟩
theorem Reps.mono {Γ : Gm} {F F' : Hp} (s : Same F F') : ∀ (ds : List D) (vs : List V), Reps Γ F ds vs → Reps Γ F' ds vs
  | [], _, h => by rw [Reps] at h ⊢; exact h
  | d :: ds, _, h => by
    rw [Reps] at h ⊢
    obtain ⟨v, r, e, h1, h2⟩ := h
    exact ⟨v, r, e, Rep.mono s d v h1, Reps.mono s ds r h2⟩
end

/-- the heap at the entry, and what of it is data -/
structure Gd where
  B : Hp
  F0 : Hp
  me : Option Addr := none
  lab : Nat → Option Addr := fun _ => none
/-- an exception's dict -/
def XD (Γ : Gm) (F : Hp) (c : Nat) : Option (List D) → Option Addr → Prop
  | none, d => d = none
  | some ds, d => ∃ dd vs, d = some dd ∧ F dd = some (.xd vs) ∧ vs.map (·.1) = Γ.flds c ∧ Reps Γ F ds (vs.map (·.2))
theorem XD.mono {Γ : Gm} {F F' : Hp} {c : Nat} (s : Same F F') : ∀ {fs : Option (List D)} {d : Option Addr}, XD Γ F c fs d → XD Γ F' c fs d
  | none, _, h => h
  | some ds, _, ⟨dd, vs, e, q, l, r⟩ => ⟨dd, vs, e, s _ _ q, l, r.mono s⟩

inductive Slot where
  | un | val (d : D) | own (d : D) | exn (c : Nat) (fs : Option (List D)) | lab (n : Nat)
abbrev Env := List Slot

/-- an object that H holds at a, its parts over F -/
def Top (Γ : Gm) (F H : Hp) (a : Addr) : D → Prop
  | .lst ds => ∃ vs, H a = some (.lst vs) ∧ ds.length ≤ sizeLine ∧ Reps Γ F ds vs
  | .obj c ds => ∃ dx fs, H a = some (.ins (Γ.cls c) dx fs) ∧ fs.map (·.1) = (Γ.flds c).take ds.length ∧ Reps Γ F ds (fs.map (·.2))
  | .dic ks ds => ∃ kvs, H a = some (.dK kvs) ∧ kvs.map (·.1) = ks ∧ kvs.length ≤ sizeLine ∧ Reps Γ F ds (kvs.map (·.2))
  | _ => False
def SRep (Γ : Gm) (F H : Hp) (G : Gd) (x : Option V) : Slot → Prop
  | .un => True
  | .val d => ∃ v, x = some v ∧ Rep Γ F d v
  | .own d => ∃ a, x = some (.ref a) ∧ F a = none ∧ G.B a = none ∧ Top Γ F H a d
  | .lab n => ∃ a, x = some (.ref a) ∧ G.lab n = some a
  | .exn c fs => ∃ a d, x = some (.ref a) ∧ Γ.xa = some (a, .ref (Γ.cls c), d) ∧ XD Γ F c fs d

structure ER (Γ : Gm) (G : Gd) (env : Env) (σ : L2.St) (F H : Hp) : Prop where
  len : σ.length = env.length
  fh : Same F H
  bh : Same G.B H
  f0 : Same G.F0 F
  fr : ∀ p o, F p = some o → G.F0 p = some o ∨ G.B p = none
  sl : ∀ (i : Nat) (s : Slot), env[i]? = some s → ∃ x, σ[i]? = some x ∧ SRep Γ F H G x s
  ds : ∀ (i j : Nat) a di dj, env[i]? = some (.own di) → env[j]? = some (.own dj) → σ[i]? = some (some (.ref a)) → σ[j]? = some (some (.ref a)) → i = j
  me : ∀ x d, G.me = some x → env[0]? = some (.own d) → σ[0]? = some (some (.ref x))

theorem Top.mono {Γ : Gm} {F H F' H' : Hp} {a : Addr} (s : Same F F') (t : ∀ o, H a = some o → H' a = some o) : ∀ {d : D}, Top Γ F H a d → Top Γ F' H' a d
  | .lst ds, ⟨vs, e, l, r⟩ => ⟨vs, t _ e, l, r.mono s⟩
  | .obj c ds, ⟨dx, fs, e, l, r⟩ => ⟨dx, fs, t _ e, l, r.mono s⟩
  | .dic ks ds, ⟨kvs, e, l, z, r⟩ => ⟨kvs, t _ e, l, z, r.mono s⟩
theorem Top.some {Γ : Gm} {F H : Hp} {a : Addr} : ∀ {d : D}, Top Γ F H a d → ∃ o, H a = some o
  | .lst ds, ⟨vs, e, l, r⟩ => ⟨_, e⟩
  | .obj c ds, ⟨dx, fs, e, l, r⟩ => ⟨_, e⟩
  | .dic ks ds, ⟨kvs, e, l, z, r⟩ => ⟨_, e⟩

/-- growth: data grows on new ground, all tracked stays -/
structure Gr (F H F' H' : Hp) : Prop where
  ff : Same F F'
  fh : Same F' H'
  hh : Same H H'
  new : ∀ p o, F' p = some o → F p = some o ∨ H p = none
theorem Gr.refl {F H : Hp} (h : Same F H) : Gr F H F H := ⟨Same.refl _, h, Same.refl _, fun _ _ e => .inl e⟩
theorem Gr.trans {F H F1 H1 F2 H2 : Hp} (a : Gr F H F1 H1) (b : Gr F1 H1 F2 H2) : Gr F H F2 H2 := ⟨a.ff.trans b.ff, b.fh, a.hh.trans b.hh, fun p o q => by
  rcases b.new p o q with z | z
  · exact a.new p o z
  · refine .inr ?_
    cases e : H p with
    | none => rfl
    | some u => have := a.hh p u e; rw [z] at this; cases this⟩
theorem SRep.gr {Γ : Gm} {F H F' H' : Hp} {G : Gd} {x : Option V} (g : Gr F H F' H') : ∀ {s : Slot}, SRep Γ F H G x s → SRep Γ F' H' G x s
  | .un, _ => trivial
  | .val d, ⟨v, e, r⟩ => ⟨v, e, r.mono g.ff⟩
  | .exn c fs, ⟨a, d, e, e2, r⟩ => ⟨a, d, e, e2, r.mono g.ff⟩
  | .lab n, h => h
  | .own d, ⟨a, e, f, b, t⟩ => by
    refine ⟨a, e, ?_, b, t.mono g.ff fun o => g.hh a o⟩
    cases q : F' a with
    | none => rfl
    | some o =>
      rcases g.new a o q with z | z
      · rw [f] at z; cases z
      · obtain ⟨o', z'⟩ := t.some; rw [z] at z'; cases z'
theorem ER.gr {Γ : Gm} {G : Gd} {env : Env} {σ : L2.St} {F H F' H' : Hp} (e : ER Γ G env σ F H) (g : Gr F H F' H') : ER Γ G env σ F' H' where
  len := e.len
  fh := g.fh
  bh := e.bh.trans g.hh
  f0 := e.f0.trans g.ff
  fr := fun p o q => by
    rcases g.new p o q with z | z
    · exact e.fr p o z
    · refine .inr ?_
      cases b : G.B p with
      | none => rfl
      | some u => have := e.bh p u b; rw [z] at this; cases this
  sl := fun i s q => let ⟨x, a, b⟩ := e.sl i s q; ⟨x, a, b.gr g⟩
  ds := e.ds
  me := e.me
end Dn

/-! Den2.lean -/
namespace Dn
open PySem PySem.Spec PyProof.Rows L2

/-- what comes of an expression: a thing, an exception of an own class (with what its __init__ stored), or nothing is told -/
inductive Res (α : Type) where
  | ok (a : α) | exc (c : Nat) (fs : Option (List D)) | err
def Res.bind {α β : Type} (r : Res α) (f : α → Res β) : Res β := match r with
  | .ok a => f a
  | .exc c fs => .exc c fs
  | .err => .err
def Res.map {α β : Type} (f : α → β) (r : Res α) : Res β := r.bind fun a => .ok (f a)
@[simp] theorem Res.bind_ok {α β : Type} (a : α) (f : α → Res β) : (Res.ok a).bind f = f a := rfl
@[simp] theorem Res.bind_exc {α β : Type} (c fs) (f : α → Res β) : (Res.exc c fs).bind f = .exc c fs := rfl
@[simp] theorem Res.bind_err {α β : Type} (f : α → Res β) : (Res.err).bind f = .err := rfl
@[simp] theorem Res.map_ok {α β : Type} (a : α) (f : α → β) : (Res.ok a).map f = .ok (f a) := rfl

section
variable (Γ : Gm) (W : WX)
def post (σ : L2.St) (F H : Hp) {α : Type} (r : Res α) (k : α → Hp → Hp → Prop) : Prop := match r with
  | .ok a => ∀ F' H', Gr F H F' H' → k a F' H'
  | .exc c fs => ∀ F' H' d, Gr F H F' H' → XD Γ F' c fs d → W (.ref (Γ.cls c)) d σ H'
  | .err => False
/-- a new object at a: no name's own, no data yet -/
structure NewAt (G : Gd) (env : Env) (σ : L2.St) (F H : Hp) (a : Addr) (d : D) : Prop where
  fn : F a = none
  bn : G.B a = none
  top : Top Γ F H a d
  no : ∀ (i : Nat) di, env[i]? = some (.own di) → σ[i]? ≠ some (some (.ref a))
def RepT (F H : Hp) (d : D) (v : V) : Prop := Rep Γ F d v ∨ ∃ a, v = .ref a ∧ Top Γ F H a d
def kE (Q : VK) : D → Hp → Hp → Prop := fun d F' H' => ∀ v, Rep Γ F' d v → Q v H'
def kW (Q : VK) : D → Hp → Hp → Prop := fun d F' H' => ∀ v, RepT Γ F' H' d v → Q v H'
def kN (H : Hp) (Q : VK) : D → Hp → Hp → Prop := fun d F' H' => ∀ a, H a = none → F' a = none → Top Γ F' H' a d → Q (.ref a) H'
def kB (Q : Bool → Hp → Prop) : Bool → Hp → Hp → Prop := fun b _ H' => Q b H'
def kA (Q : List V → Hp → Prop) : List D → Hp → Hp → Prop := fun ds F' H' => ∀ vs, Reps Γ F' ds vs → Q vs H'
def tE (den : Env → Res D) : TE := fun σ H Q => ∃ G env F, ER Γ G env σ F H ∧ post Γ W σ F H (den env) (kE Γ Q)
def tW (den : Env → Res D) : TE := fun σ H Q => ∃ G env F, ER Γ G env σ F H ∧ post Γ W σ F H (den env) (kW Γ Q)
def tN (den : Env → Res D) : TE := fun σ H Q => ∃ G env F, ER Γ G env σ F H ∧ post Γ W σ F H (den env) (kN Γ H Q)
def tT (den : Env → Res Bool) : TT := fun σ H Q => ∃ G env F, ER Γ G env σ F H ∧ post Γ W σ F H (den env) (kB Q)
def tA (den : Env → Res (List D)) : TA := fun σ H Q => ∃ G env F, ER Γ G env σ F H ∧ post Γ W σ F H (den env) (kA Γ Q)
end

section
variable {Γ : Gm} {W : WX} {G : Gd} {env : Env} {σ : L2.St} {F F' H H' : Hp} {α β : Type}
theorem post.mono {r : Res α} {k : α → Hp → Hp → Prop} (g : Gr F H F' H') (h : post Γ W σ F H r k) : post Γ W σ F' H' r k := match r, h with
  | .ok _, h => fun F1 H1 q => h F1 H1 (g.trans q)
  | .exc _ _, h => fun F1 H1 d q => h F1 H1 d (g.trans q)
theorem post.imp {r : Res α} {k k' : α → Hp → Hp → Prop} (h : post Γ W σ F H r k) (i : ∀ a F' H', r = .ok a → Gr F H F' H' → k a F' H' → k' a F' H') : post Γ W σ F H r k' := match r, h, i with
  | .ok _, h, i => fun F1 H1 q => i _ F1 H1 rfl q (h F1 H1 q)
  | .exc _ _, h, _ => h
/-- a then b -/
theorem post.bind {r : Res α} {f : α → Res β} {k : β → Hp → Hp → Prop} (h : post Γ W σ F H (r.bind f) k) : post Γ W σ F H r (fun a F' H' => post Γ W σ F' H' (f a) k) := match r, h with
  | .ok _, h => fun F1 H1 q => h.mono q
  | .exc _ _, h => h
theorem post.ok {a : α} {k : α → Hp → Hp → Prop} (e : ER Γ G env σ F H) (h : post Γ W σ F H (Res.ok a) k) : k a F H := h F H (Gr.refl e.fh)

/-- a new object becomes data -/
theorem NewAt.freeze {a : Addr} {d : D} (e : ER Γ G env σ F H) (n : NewAt Γ G env σ F H a d) (hc : ∀ c ds, d = .obj c ds → ds.length = (Γ.flds c).length) :
    ∃ F', Same F F' ∧ (∀ p u, F' p = some u → F p = some u ∨ p = a) ∧ ER Γ G env σ F' H ∧ Rep Γ F' d (.ref a) := by
  obtain ⟨o, ho⟩ := n.top.some
  have sf : Same F (upd F a o) := fun b u q => by rw [upd_ne (ne_of_none q n.fn)]; exact q
  refine ⟨upd F a o, sf, fun p u q => ?_, ⟨e.len, fun b u q => ?_, e.bh, e.f0.trans sf, fun b u q => ?_, fun i s q => ?_, e.ds, e.me⟩, ?_⟩
  · by_cases hp : p = a
    · exact .inr hp
    · rw [upd_ne hp] at q; exact .inl q
  · by_cases hb : b = a
    · subst hb; rw [upd_same] at q; cases q; exact ho
    · rw [upd_ne hb] at q; exact e.fh _ _ q
  · by_cases hb : b = a
    · subst hb; exact .inr n.bn
    · rw [upd_ne hb] at q; exact e.fr _ _ q
  · obtain ⟨x, hx, r⟩ := e.sl i s q
    refine ⟨x, hx, ?_⟩
    cases s with
    | un => trivial
    | exn c fs => obtain ⟨x0, d0, e1, e2, r⟩ := r; exact ⟨x0, d0, e1, e2, r.mono sf⟩
    | lab n => exact r
    | val d => obtain ⟨v, e1, r⟩ := r; exact ⟨v, e1, r.mono sf⟩
    | own d' =>
      obtain ⟨b, e1, f, bb, t⟩ := r
      have hb : b ≠ a := fun z => by subst z; subst e1; exact n.no i d' q hx
      exact ⟨b, e1, by rw [upd_ne hb]; exact f, bb, t.mono sf fun _ z => z⟩
  · have t := n.top
    cases d with
    | lst ds => obtain ⟨vs, e1, l, r⟩ := t; rw [e1] at ho; cases ho; rw [Rep]; exact ⟨a, vs, rfl, upd_same, l, r.mono sf⟩
    | obj c ds =>
      obtain ⟨dx, fs, e1, l, r⟩ := t; rw [e1] at ho; cases ho; rw [Rep]
      exact ⟨a, dx, fs, rfl, upd_same, by rw [l, hc c ds rfl, List.take_length], r.mono sf⟩
    | dic ks ds => obtain ⟨kvs, e1, l, z, r⟩ := t; rw [e1] at ho; cases ho; rw [Rep]; exact ⟨a, kvs, rfl, upd_same, l, z, r.mono sf⟩
    | _ => exact t.elim
theorem fresh_gr {a : Addr} {d : D} (g : Gr F H F' H') (fa : F' a = none) (ha : H a = none) (t : Top Γ F' H' a d) (hf : ∀ c ds, d = .obj c ds → ds.length = (Γ.flds c).length) :
    ∃ F2, Gr F H F2 H' ∧ Rep Γ F2 d (.ref a) := by
  obtain ⟨o, ho⟩ := t.some
  have sf : Same F' (upd F' a o) := fun b u q => by rw [upd_ne (ne_of_none q fa)]; exact q
  refine ⟨upd F' a o, ⟨g.ff.trans sf, fun b u q => ?_, g.hh, fun p u q => ?_⟩, ?_⟩
  · by_cases hb : b = a
    · subst hb; rw [upd_same] at q; cases q; exact ho
    · rw [upd_ne hb] at q; exact g.fh _ _ q
  · by_cases hp : p = a
    · subst hp; exact .inr ha
    · rw [upd_ne hp] at q; exact g.new p u q
  · cases d with
    | lst ds => obtain ⟨vs, e1, l, r⟩ := t; rw [e1] at ho; cases ho; rw [Rep]; exact ⟨a, vs, rfl, upd_same, l, r.mono sf⟩
    | obj c ds =>
      obtain ⟨dx, fs, e1, l, r⟩ := t; rw [e1] at ho; cases ho; rw [Rep]
      exact ⟨a, dx, fs, rfl, upd_same, by rw [l, hf c ds rfl, List.take_length], r.mono sf⟩
    | dic ks ds => obtain ⟨kvs, e1, l, z, r⟩ := t; rw [e1] at ho; cases ho; rw [Rep]; exact ⟨a, kvs, rfl, upd_same, l, z, r.mono sf⟩
    | _ => exact t.elim
theorem ER.newAt {a : Addr} {d : D} (e : ER Γ G env σ F H) (g : Gr F H F' H') (ha : H a = none) (fa : F' a = none) (t : Top Γ F' H' a d) : NewAt Γ G env σ F' H' a d where
  fn := fa
  bn := by
    cases q : G.B a with
    | none => rfl
    | some u => have := e.bh a u q; rw [ha] at this; cases this
  top := t
  no := fun i di q z => by
    obtain ⟨x, hx, b, e1, _, _, t'⟩ := e.sl i _ q
    rw [z] at hx; cases hx; cases e1
    obtain ⟨o, ho⟩ := t'.some
    rw [ha] at ho; cases ho
theorem RepT.gr {d : D} {v : V} (g : Gr F H F' H') : RepT Γ F H d v → RepT Γ F' H' d v
  | .inl h => .inl (h.mono g.ff)
  | .inr ⟨a, e, t⟩ => .inr ⟨a, e, t.mono g.ff fun o => g.hh a o⟩
end

/-! ### rules by a reading's weakening -/
section
variable {X : Cx} {e : Expr}
theorem PE.w {t t' : TE} (h : PE X e t) (i : ∀ σ H Q, t' σ H Q → t σ H Q) : PE X e t' := ⟨fun pins s σ H Q I q => h.run pins s σ H Q I (i σ H Q q)⟩
/-- the reading may be chosen at each state -/
theorem PE.u {t' : TE} (h : ∀ σ H Q, t' σ H Q → ∃ t, PE X e t ∧ t σ H Q) : PE X e t' := ⟨fun pins s σ H Q I q => let ⟨_, a, b⟩ := h σ H Q q; a.run pins s σ H Q I b⟩
theorem PT.w {t t' : TT} (h : PT X e t) (i : ∀ σ H Q, t' σ H Q → t σ H Q) : PT X e t' := ⟨fun pins s σ H Q I q => h.run pins s σ H Q I (i σ H Q q)⟩
theorem PA.w {es : List Expr} {t t' : TA} (h : PA X es t) (i : ∀ σ H Q, t' σ H Q → t σ H Q) : PA X es t' := ⟨fun pos pins s σ H Q I q => h.run pos pins s σ H Q I (i σ H Q q)⟩
theorem PS.w {st : Stmt} {t t' : TS} (h : PS X st t) (i : ∀ D σ H, t' D σ H → t D σ H) : PS X st t' := ⟨fun pins s σ H D I q => h.run pins s σ H D I (i D σ H q)⟩
theorem PSs.w {st : List Stmt} {t t' : TS} (h : PSs X st t) (i : ∀ D σ H, t' D σ H → t D σ H) : PSs X st t' := ⟨fun pins s σ H D I q => h.run pins s σ H D I (i D σ H q)⟩
theorem PI.w {tg : Expr} {t t' : TI} (h : PI X tg e t) (i : ∀ σ H R, t' σ H R → t σ H R) : PI X tg e t' := ⟨fun pins s σ H R I q => h.run pins s σ H R I (i σ H R q)⟩
end

/-! ### leaves -/
section
variable {X : Cx} {Γ : Gm} {W : WX} {pos : Pos}
def dVar (i : Nat) : Env → Res D := fun env => match env[i]? with
  | some (.val d) => .ok d
  | _ => .err
/-- .. of a list or dict that is the name's own, too: it is looked at here -/
def dPeek (i : Nat) : Env → Res D := fun env => match env[i]? with
  | some (.val d) => .ok d
  | some (.own d) => .ok d
  | _ => .err
def dC (d : D) : Env → Res D := fun _ => .ok d
theorem e_var {i : Nat} {x : Str} (hp : PE X (.Name x pos) (tVar i)) : PE X (.Name x pos) (tE Γ W (dVar i)) := PE.w hp fun σ H Q ⟨G, env, F, er, h⟩ => by
  unfold dVar at h
  split at h
  · rename_i d e
    obtain ⟨y, hy, v, e1, r⟩ := er.sl i _ e
    subst e1
    exact ⟨v, hy, h.ok er v r⟩
  · exact h.elim
theorem w_peek {i : Nat} {x : Str} (hp : PE X (.Name x pos) (tVar i)) : PE X (.Name x pos) (tW Γ W (dPeek i)) := PE.w hp fun σ H Q ⟨G, env, F, er, h⟩ => by
  unfold dPeek at h
  split at h
  · rename_i d e
    obtain ⟨y, hy, v, e1, r⟩ := er.sl i _ e
    subst e1
    exact ⟨v, hy, h.ok er v (.inl r)⟩
  · rename_i d e
    obtain ⟨y, hy, a, e1, _, _, r⟩ := er.sl i _ e
    subst e1
    exact ⟨_, hy, h.ok er _ (.inr ⟨a, rfl, r⟩)⟩
  · exact h.elim
/-- strong is weak -/
theorem w_e {e : Expr} {den : Env → Res D} (h : PE X e (tE Γ W den)) : PE X e (tW Γ W den) := PE.w h fun σ H Q ⟨G, env, F, er, q⟩ =>
  ⟨G, env, F, er, q.imp fun d F' H' _ _ k v r => k v (.inl r)⟩
def flat (d : D) : Bool := match d with
  | .obj _ _ => false
  | _ => true
theorem e_n {e : Expr} {den : Env → Res D} (h : PE X e (tN Γ W den)) (hf : ∀ env d, den env = .ok d → flat d = true) : PE X e (tE Γ W den) := PE.w h fun σ H Q ⟨G, env, F, er, q⟩ => by
  refine ⟨G, env, F, er, ?_⟩
  have hf := hf env
  cases z : den env with
  | err => rw [z] at q; exact q
  | exc c fs => rw [z] at q; exact q
  | ok d =>
    rw [z] at q
    intro F1 H1 g a ha fa t
    obtain ⟨F2, g2, r⟩ := fresh_gr g fa ha t fun c ds hd => by have := hf d z; rw [hd] at this; cases this
    exact q F2 H1 g2 _ r
theorem w_n {e : Expr} {den : Env → Res D} (h : PE X e (tN Γ W den)) : PE X e (tW Γ W den) := PE.w h fun σ H Q ⟨G, env, F, er, q⟩ =>
  ⟨G, env, F, er, q.imp fun d F' H' _ _ k a _ _ n => k _ (.inr ⟨a, rfl, n⟩)⟩
theorem e_c {e : Expr} {v : V} {d : D} (hp : PE X e (tC v)) (hr : ∀ F, Rep Γ F d v) : PE X e (tE Γ W (dC d)) := PE.w hp fun σ H Q ⟨G, env, F, er, h⟩ => h.ok er v (hr F)
theorem e_int {i j} : PE X (.Constant (.int i) j pos) (tE Γ W (dC (.int i))) := e_c pe_int fun F => by rw [Rep]
theorem e_bl {b j} : PE X (.Constant (.bool b) j pos) (tE Γ W (dC (.bl b))) := e_c pe_bl fun F => by rw [Rep]
theorem e_non {j} : PE X (.Constant .none j pos) (tE Γ W (dC .non)) := e_c pe_non fun F => by rw [Rep]
theorem e_str {x : Str} {j} (h : sOk x = true := by decide +kernel) : PE X (.Constant (.str x) j pos) (tE Γ W (dC (.str x))) := e_c pe_str fun F => by rw [Rep]; exact ⟨rfl, h⟩
end

/-! ### arguments -/
section
variable {X : Cx} {Γ : Gm} {W : WX} {pos : Pos} {e : Expr} {es : List Expr}
def dNil : Env → Res (List D) := fun _ => .ok []
def dCons (a : Env → Res D) (r : Env → Res (List D)) : Env → Res (List D) := fun env => (a env).bind fun d => (r env).bind fun ds => .ok (d :: ds)
theorem ER.sameOf {G : Gd} {env : Env} {σ : L2.St} {F H : Hp} (e : ER Γ G env σ F H) : Same F H := e.fh
theorem a_nil : PA X [] (tA Γ W dNil) := PA.w pa_nil fun σ H Q ⟨G, env, F, er, h⟩ => h.ok er [] .nil
theorem a_cons {da : Env → Res D} {dr : Env → Res (List D)} (ha : PE X e (tE Γ W da)) (hr : PA X es (tA Γ W dr)) (hs : starEach (e :: es) X.env = (false, eval e X.env) :: starEach es X.env := by rfl) :
    PA X (e :: es) (tA Γ W (dCons da dr)) := PA.w (pa_cons ha hr hs) fun σ H Q ⟨G, env, F, er, h⟩ => by
  refine ⟨G, env, F, er, h.bind.imp fun d F1 H1 _ g1 h1 v r1 => ⟨G, env, F1, er.gr g1, h1.bind.imp fun ds F2 H2 _ g2 h2 vs r2 => ?_⟩⟩
  exact h2.ok ((er.gr g1).gr g2) _ (.cons (r1.mono g2.ff) r2)
end
end Dn

/-! Den3.lean -/
namespace Dn
open PySem PySem.Spec PyProof.Rows L2

inductive Out where
  | nx (e : Env) | ret (d : D) | bk (e : Env) | ct (e : Env) | exc (e : Env) (c : Nat) (fs : Option (List D)) | err
section
variable (Γ : Gm) (W : WX)
def sPost (G : Gd) (Dn : Ends) (F : Hp) : Out → Prop
  | .nx e => ∀ σ' F' H', Same F F' → ER Γ G e σ' F' H' → Dn.nx σ' H'
  | .bk e => ∀ σ' F' H', Same F F' → ER Γ G e σ' F' H' → Dn.bk σ' H'
  | .ct e => ∀ σ' F' H', Same F F' → ER Γ G e σ' F' H' → Dn.ct σ' H'
  | .ret d => ∀ v e σ' F' H', Same F F' → ER Γ G e σ' F' H' → Rep Γ F' d v → Dn.rt v H'
  | .exc e c fs => ∀ σ' F' H' d, Same F F' → ER Γ G e σ' F' H' → XD Γ F' c fs d → W (.ref (Γ.cls c)) d σ' H'
  | .err => False
def tS (den : Env → Out) : TS := fun Dn σ H => ∃ G env F, ER Γ G env σ F H ∧ sPost Γ W G Dn F (den env)
end
section
variable {Γ : Gm} {W : WX} {G : Gd} {env : Env} {σ : L2.St} {F F' H H' : Hp} {Dn : Ends}
theorem sPost.mono (s : Same F F') : ∀ {o : Out}, sPost Γ W G Dn F o → sPost Γ W G Dn F' o
  | .nx _, h => fun σ' F1 H1 q e => h σ' F1 H1 (s.trans q) e
  | .bk _, h => fun σ' F1 H1 q e => h σ' F1 H1 (s.trans q) e
  | .ct _, h => fun σ' F1 H1 q e => h σ' F1 H1 (s.trans q) e
  | .ret _, h => fun v e σ' F1 H1 q er r => h v e σ' F1 H1 (s.trans q) er r
  | .exc _ _ _, h => fun σ' F1 H1 d q e x => h σ' F1 H1 d (s.trans q) e x

theorem ER.set (e : ER Γ G env σ F H) (i : Nat) {d : D} {v : V} (r : Rep Γ F d v) : ER Γ G (env.set i (.val d)) (σ.set i (some v)) F H := by
  refine ⟨by simp [e.len], e.fh, e.bh, e.f0, e.fr, fun j s q => ?_, fun j k a dj dk q1 q2 q3 q4 => ?_, fun x d0 hx q => ?_⟩
  · by_cases hj : i = j
    · subst hj
      have hl : i < env.length := by
        have := (List.getElem?_eq_some_iff.mp q).1
        simpa using this
      rw [List.getElem?_set_self hl] at q; cases q
      exact ⟨some v, by rw [List.getElem?_set_self (by rw [e.len]; exact hl)], v, rfl, r⟩
    · rw [List.getElem?_set_ne hj] at q
      obtain ⟨x, a, b⟩ := e.sl j s q
      exact ⟨x, by rw [List.getElem?_set_ne hj]; exact a, b⟩
  · have ne : ∀ {j dj}, (env.set i (.val d))[j]? = some (.own dj) → i ≠ j ∧ env[j]? = some (.own dj) := fun {j dj} q => by
      by_cases hj : i = j
      · subst hj
        have hl : i < env.length := by
          have := (List.getElem?_eq_some_iff.mp q).1
          simpa using this
        rw [List.getElem?_set_self hl] at q; cases q
      · rw [List.getElem?_set_ne hj] at q; exact ⟨hj, q⟩
    obtain ⟨n1, q1⟩ := ne q1
    obtain ⟨n2, q2⟩ := ne q2
    rw [List.getElem?_set_ne n1] at q3
    rw [List.getElem?_set_ne n2] at q4
    exact e.ds j k a dj dk q1 q2 q3 q4
  · by_cases h0 : i = 0
    · subst h0
      have hl : 0 < env.length := by
        have := (List.getElem?_eq_some_iff.mp q).1
        simpa using this
      rw [List.getElem?_set_self hl] at q; cases q
    · rw [List.getElem?_set_ne h0] at q ⊢; exact e.me x d0 hx q
theorem ER.setOwn (e : ER Γ G env σ F H) (i : Nat) {d : D} {a : Addr} (n : NewAt Γ G env σ F H a d) (hi : i ≠ 0) : ER Γ G (env.set i (.own d)) (σ.set i (some (.ref a))) F H := by
  refine ⟨by simp [e.len], e.fh, e.bh, e.f0, e.fr, fun j s q => ?_, fun j k b dj dk q1 q2 q3 q4 => ?_, fun x d0 hx q => by rw [List.getElem?_set_ne hi] at q ⊢; exact e.me x d0 hx q⟩
  · by_cases hj : i = j
    · subst hj
      have hl : i < env.length := by
        have := (List.getElem?_eq_some_iff.mp q).1
        simpa using this
      rw [List.getElem?_set_self hl] at q; cases q
      exact ⟨_, by rw [List.getElem?_set_self (by rw [e.len]; exact hl)], a, rfl, n.fn, n.bn, n.top⟩
    · rw [List.getElem?_set_ne hj] at q
      obtain ⟨x, a, b⟩ := e.sl j s q
      exact ⟨x, by rw [List.getElem?_set_ne hj]; exact a, b⟩
  · have hlt : ∀ {j dj}, (env.set i (.own d))[j]? = some (.own dj) → j < env.length := fun {j dj} q => by
      have := (List.getElem?_eq_some_iff.mp q).1
      simpa using this
    have h1 := hlt q1
    have h2 := hlt q2
    by_cases hj : i = j
    · by_cases hk : i = k
      · exact hj.symm.trans hk
      · subst hj
        rw [List.getElem?_set_ne hk] at q2 q4
        rw [List.getElem?_set_self (by rw [e.len]; exact h1)] at q3
        cases q3
        exact (n.no k dk q2 q4).elim
    · by_cases hk : i = k
      · subst hk
        rw [List.getElem?_set_ne hj] at q1 q3
        rw [List.getElem?_set_self (by rw [e.len]; exact h2)] at q4
        cases q4
        exact (n.no j dj q1 q3).elim
      · rw [List.getElem?_set_ne hj] at q1 q3
        rw [List.getElem?_set_ne hk] at q2 q4
        exact e.ds j k b dj dk q1 q2 q3 q4
/-- a name's value is forgotten -/
theorem ER.kill (e : ER Γ G env σ F H) (i : Nat) : ER Γ G (env.set i .un) σ F H := by
  have ne : ∀ {j : Nat} {s : Slot}, (env.set i Slot.un)[j]? = some s → s = Slot.un ∨ env[j]? = some s := fun {j s} q => by
    by_cases hj : i = j
    · subst hj
      have hl : i < env.length := by
        have := (List.getElem?_eq_some_iff.mp q).1
        simpa using this
      rw [List.getElem?_set_self hl] at q; cases q; exact .inl rfl
    · rw [List.getElem?_set_ne hj] at q; exact .inr q
  refine ⟨by simp [e.len], e.fh, e.bh, e.f0, e.fr, fun j s q => ?_, fun j k b dj dk q1 q2 q3 q4 => ?_, fun x d0 hx q => e.me x d0 hx ((ne q).resolve_left (fun z => nomatch z))⟩
  · rcases ne q with z | z
    · subst z
      have hl : j < σ.length := by
        have := (List.getElem?_eq_some_iff.mp q).1
        rw [e.len]; simpa using this
      exact ⟨σ[j], by simp [hl], trivial⟩
    · exact e.sl j s z
  · rcases ne q1 with z | z
    · cases z
    · rcases ne q2 with z' | z'
      · cases z'
      · exact e.ds j k b dj dk z z' q3 q4
/-- any value at a forgotten name -/
theorem ER.setUn (e : ER Γ G env σ F H) (i : Nat) (x : Option V) (h : env[i]? = some .un) : ER Γ G env (σ.set i x) F H := by
  refine ⟨by simp [e.len], e.fh, e.bh, e.f0, e.fr, fun j s q => ?_, fun j k b dj dk q1 q2 q3 q4 => ?_, fun y d0 hx q => ?_⟩
  · by_cases hj : i = j
    · subst hj
      rw [h] at q; cases q
      have hl : i < env.length := (List.getElem?_eq_some_iff.mp h).1
      exact ⟨x, by rw [List.getElem?_set_self (by rw [e.len]; exact hl)], trivial⟩
    · obtain ⟨y, a, b⟩ := e.sl j s q
      exact ⟨y, by rw [List.getElem?_set_ne hj]; exact a, b⟩
  · have n1 : i ≠ j := fun z => by subst z; rw [h] at q1; cases q1
    have n2 : i ≠ k := fun z => by subst z; rw [h] at q2; cases q2
    rw [List.getElem?_set_ne n1] at q3
    rw [List.getElem?_set_ne n2] at q4
    exact e.ds j k b dj dk q1 q2 q3 q4
  · have n0 : i ≠ 0 := fun z => by subst z; rw [h] at q; cases q
    rw [List.getElem?_set_ne n0]; exact e.me y d0 hx q
def kills (is : List Nat) (env : Env) : Env := is.foldl (fun e i => e.set i .un) env
theorem ER.kills (is : List Nat) : ∀ {env : Env}, ER Γ G env σ F H → ER Γ G (kills is env) σ F H := by
  induction is with
  | nil => intro env e; exact e
  | cons i r ih => intro env e; exact ih (e.kill i)
/-- the own object of slot i is changed -/
theorem ER.write (e : ER Γ G env σ F H) {i : Nat} {d d' : D} {a : Addr} {o : HO} (h : env[i]? = some (.own d)) (hs : σ[i]? = some (some (.ref a))) (t : Top Γ F (upd H a o) a d') : ER Γ G (env.set i (.own d')) σ F (upd H a o) := by
  obtain ⟨x, hx, b, e1, fn, bn, top⟩ := e.sl i _ h
  rw [hs] at hx; cases hx; cases e1
  have hi : i < env.length := (List.getElem?_eq_some_iff.mp h).1
  refine ⟨by simp [e.len], fun p u q => ?_, fun p u q => ?_, e.f0, e.fr, fun j s q => ?_, fun j k b dj dk q1 q2 q3 q4 => ?_, fun x d0 hx q => ?_⟩
  · rw [upd_ne (ne_of_none q fn)]; exact e.fh p u q
  · rw [upd_ne (ne_of_none q bn)]; exact e.bh p u q
  · by_cases hj : i = j
    · subst hj
      rw [List.getElem?_set_self hi] at q; cases q
      exact ⟨_, hs, a, rfl, fn, bn, t⟩
    · rw [List.getElem?_set_ne hj] at q
      obtain ⟨y, hy, r⟩ := e.sl j s q
      refine ⟨y, hy, ?_⟩
      cases s with
      | un => trivial
      | exn _ _ => exact r
      | lab _ => exact r
      | val _ => exact r
      | own dj =>
        obtain ⟨b, e2, f2, b2, t2⟩ := r
        subst e2
        have hb : b ≠ a := fun z => by subst z; exact hj (e.ds i j b d dj h q hs hy)
        exact ⟨b, rfl, f2, b2, t2.mono (Same.refl _) fun u q => by rw [upd_ne hb]; exact q⟩
  · have ne : ∀ {j : Nat} {dj : D}, (env.set i (Slot.own d'))[j]? = some (Slot.own dj) → ∃ dj', env[j]? = some (Slot.own dj') := fun {j dj} q => by
      by_cases hj : i = j
      · subst hj; exact ⟨d, h⟩
      · rw [List.getElem?_set_ne hj] at q; exact ⟨dj, q⟩
    obtain ⟨_, q1⟩ := ne q1
    obtain ⟨_, q2⟩ := ne q2
    exact e.ds j k b _ _ q1 q2 q3 q4
  · by_cases h0 : i = 0
    · subst h0; exact e.me x d hx h
    · rw [List.getElem?_set_ne h0] at q; exact e.me x d0 hx q
/-- the own object of slot i becomes data -/
theorem ER.freeze (e : ER Γ G env σ F H) {i : Nat} {d : D} (h : env[i]? = some (.own d)) (hf : flat d = true) : ∃ F', Same F F' ∧ ER Γ G (env.set i (.val d)) σ F' H := by
  obtain ⟨x, hx, a, e1, fn, bn, top⟩ := e.sl i _ h
  subst e1
  have hi : i < env.length := (List.getElem?_eq_some_iff.mp h).1
  have ek := e.kill i
  have n : NewAt Γ G (env.set i .un) σ F H a d := ⟨fn, bn, top, fun j dj q z => by
    by_cases hj : i = j
    · subst hj; rw [List.getElem?_set_self hi] at q; cases q
    · rw [List.getElem?_set_ne hj] at q
      exact hj (e.ds i j a d dj h q hx z)⟩
  obtain ⟨F', s, _, e2, r⟩ := n.freeze ek fun c ds z => by rw [z] at hf; cases hf
  refine ⟨F', s, ?_⟩
  have e3 := e2.set i r
  rw [List.set_set] at e3
  have : σ.set i (some (V.ref a)) = σ := by
    apply List.ext_getElem?
    intro j
    by_cases hj : i = j
    · subst hj; rw [List.getElem?_set_self (by rw [e.len]; exact hi), hx]
    · rw [List.getElem?_set_ne hj]
  rw [this] at e3
  exact e3
end

/-! ### statements -/
section
variable {X : Cx} {Γ : Gm} {W : WX} {pos : Pos} {st : Stmt} {sts : List Stmt} {e c : Expr}
def dSkip : Env → Out := fun env => .nx env
def dSeq (a b : Env → Out) : Env → Out := fun env => match a env with
  | .nx e => b e
  | o => o
def dSet (i : Nat) (den : Env → Res D) : Env → Out := fun env => match den env with
  | .ok d => .nx (env.set i (.val d))
  | .exc c fs => .exc env c fs
  | .err => .err
def dOwn (i : Nat) (den : Env → Res D) : Env → Out := fun env => match den env with
  | .ok d => .nx (env.set i (.own d))
  | .exc c fs => .exc env c fs
  | .err => .err
def dRet (den : Env → Res D) : Env → Out := fun env => match den env with
  | .ok d => .ret d
  | .exc c fs => .exc env c fs
  | .err => .err
def dDo (den : Env → Res D) : Env → Out := fun env => match den env with
  | .ok _ => .nx env
  | .exc c fs => .exc env c fs
  | .err => .err
def dIf (t : Env → Res Bool) (a b : Env → Out) : Env → Out := fun env => match t env with
  | .ok true => a env
  | .ok false => b env
  | .exc c fs => .exc env c fs
  | .err => .err
/-- ahead of a statement: what is known is turned -/
def dPre (g : Env → Env) (s : Env → Out) : Env → Out := fun env => s (g env)
theorem ss_nil : PSs X [] (tS Γ W dSkip) := PSs.w pss_nil fun D σ H ⟨G, env, F, er, h⟩ => h σ F H (Same.refl _) er
theorem ss_cons {a b : Env → Out} (h1 : PS X st (tS Γ W a)) (h2 : PSs X sts (tS Γ W b)) : PSs X (st :: sts) (tS Γ W (dSeq a b)) := PSs.w (pss_cons h1 h2) fun D σ H ⟨G, env, F, er, h⟩ => by
  refine ⟨G, env, F, er, ?_⟩
  unfold dSeq at h
  cases z : a env with
  | nx e => rw [z] at h; exact fun σ' F' H' s e' => ⟨G, e, F', e', h.mono s⟩
  | ret d => rw [z] at h; exact h
  | bk e => rw [z] at h; exact h
  | ct e => rw [z] at h; exact h
  | exc e c fs => rw [z] at h; exact h
  | err => rw [z] at h; exact h
theorem ss_one {a : Env → Out} (h1 : PS X st (tS Γ W a)) : PSs X [st] (tS Γ W a) := pss_one h1
theorem s_pass : PS X (.Pass pos) (tS Γ W dSkip) := PS.w ps_pass fun D σ H ⟨G, env, F, er, h⟩ => h σ F H (Same.refl _) er
theorem s_doc {x j pos'} : PS X (.Expr (.Constant (.str x) j pos) pos') (tS Γ W dSkip) := PS.w ps_doc fun D σ H ⟨G, env, F, er, h⟩ => h σ F H (Same.refl _) er
theorem s_break : PS X (.Break pos) (tS Γ W Out.bk) := PS.w ps_break fun D σ H ⟨G, env, F, er, h⟩ => h σ F H (Same.refl _) er
theorem s_continue : PS X (.Continue pos) (tS Γ W Out.ct) := PS.w ps_continue fun D σ H ⟨G, env, F, er, h⟩ => h σ F H (Same.refl _) er
theorem xpost {G : Gd} {env : Env} {σ : L2.St} {F H : Hp} {r : Res D} {Dd : Ends} {f : D → Out} (k : D → Hp → Hp → Prop) (er : ER Γ G env σ F H)
    (h : sPost Γ W G Dd F (match r with | .ok d => f d | .exc c fs => .exc env c fs | .err => .err)) (i : ∀ d F' H', Gr F H F' H' → ER Γ G env σ F' H' → sPost Γ W G Dd F' (f d) → k d F' H') : post Γ W σ F H r k := by
  cases r with
  | ok d => exact fun F' H' g => i d F' H' g (er.gr g) (h.mono g.ff)
  | exc c fs => exact fun F' H' d g x => h σ F' H' d g.ff (er.gr g) x
  | err => exact h.elim
theorem s_ret {den : Env → Res D} (h : PE X e (tE Γ W den)) : PS X (.Return (some e) pos) (tS Γ W (dRet den)) := PS.w (ps_ret h) fun D σ H ⟨G, env, F, er, q⟩ => by
  refine ⟨G, env, F, er, xpost (f := Out.ret) _ er q fun d F' H' s e' q v r => q v env σ F' H' (Same.refl _) e' r⟩
theorem s_retN : PS X (.Return none pos) (tS Γ W (dRet (dC .non))) := PS.w ps_retN fun D σ H ⟨G, env, F, er, q⟩ => q .non env σ F H (Same.refl _) er (by rw [Rep])
theorem s_do {den : Env → Res D} (h : PE X e (tW Γ W den)) (hs : swapsWith e none pos.line X.env = pure false := by rfl) : PS X (.Expr e pos) (tS Γ W (dDo den)) := PS.w (ps_expr h hs) fun D σ H ⟨G, env, F, er, q⟩ => by
  refine ⟨G, env, F, er, xpost (f := fun _ => Out.nx env) _ er q fun d F' H' s e' q v r => q σ F' H' (Same.refl _) e'⟩
theorem s_set {den : Env → Res D} {i : Nat} (h : ∀ te, PE X e te → PS X st (tAsg te (gName i))) (he : PE X e (tE Γ W den)) : PS X st (tS Γ W (dSet i den)) := PS.w (h _ he) fun D σ H ⟨G, env, F, er, q⟩ => by
  refine ⟨G, env, F, er, xpost (f := fun d => Out.nx (env.set i (.val d))) _ er q fun d F' H' s e' q v r => q _ F' H' (Same.refl _) (e'.set i r)⟩
theorem s_own {den : Env → Res D} {i : Nat} (h : ∀ te, PE X e te → PS X st (tAsg te (gName i))) (he : PE X e (tN Γ W den)) (hi : i ≠ 0 := by decide) : PS X st (tS Γ W (dOwn i den)) := PS.w (h _ he) fun D σ H ⟨G, env, F, er, q⟩ => by
  refine ⟨G, env, F, er, xpost (f := fun d => Out.nx (env.set i (.own d))) _ er q fun d F' H' g e' q a ha fa t => q _ F' H' (Same.refl _) (e'.setOwn i (er.newAt g ha fa t) hi)⟩
theorem s_if {t : Env → Res Bool} {a b : List Stmt} {da db : Env → Out} (ht : PT X c (tT Γ W t)) (ha : PSs X a (tS Γ W da)) (hb : PSs X b (tS Γ W db)) : PS X (.If c a b pos) (tS Γ W (dIf t da db)) := PS.w (ps_if ht ha hb) fun D σ H ⟨G, env, F, er, q⟩ => by
  refine ⟨G, env, F, er, ?_⟩
  unfold dIf at q
  cases z : t env with
  | ok k =>
    rw [z] at q
    intro F' H' g
    cases k with
    | true => exact ⟨G, env, F', er.gr g, q.mono g.ff⟩
    | false => exact ⟨G, env, F', er.gr g, q.mono g.ff⟩
  | exc c fs => rw [z] at q; exact fun F' H' d g x => q σ F' H' d g.ff (er.gr g) x
  | err => rw [z] at q; exact q.elim
/-- what is known of names may be weakened -/
def Ghost (Γ : Gm) (g : Env → Env) : Prop := ∀ {G env σ F H}, ER Γ G env σ F H → ∃ F', Same F F' ∧ ER Γ G (g env) σ F' H
theorem s_pre {g : Env → Env} {d : Env → Out} (hg : Ghost Γ g) (h : PS X st (tS Γ W d)) : PS X st (tS Γ W (dPre g d)) := PS.w h fun D σ H ⟨G, env, F, er, q⟩ =>
  let ⟨F', s, e⟩ := hg er; ⟨G, _, F', e, q.mono s⟩
theorem ss_pre {g : Env → Env} {d : Env → Out} (hg : Ghost Γ g) (h : PSs X sts (tS Γ W d)) : PSs X sts (tS Γ W (dPre g d)) := PSs.w h fun D σ H ⟨G, env, F, er, q⟩ =>
  let ⟨F', s, e⟩ := hg er; ⟨G, _, F', e, q.mono s⟩
theorem Ghost.kills (is : List Nat) : Ghost Γ (Dn.kills is) := fun er => ⟨_, Same.refl _, er.kills is⟩
def frz (i : Nat) (env : Env) : Env := match env[i]? with
  | some (.own d) => if flat d = true then env.set i (.val d) else env
  | _ => env
theorem Ghost.frz (i : Nat) : Ghost Γ (Dn.frz i) := fun {G env σ F H} er => by
  unfold Dn.frz
  split
  · rename_i d h
    split
    · rename_i hf
      exact er.freeze h hf
    · exact ⟨_, Same.refl _, er⟩
  · exact ⟨_, Same.refl _, er⟩
def frzs (is : List Nat) (env : Env) : Env := is.foldl (fun e i => frz i e) env
theorem Ghost.frzs (is : List Nat) : Ghost Γ (Dn.frzs is) := by
  unfold Ghost
  induction is with
  | nil => intro G env σ F H er; exact ⟨_, Same.refl _, er⟩
  | cons i r ih =>
    intro G env σ F H er
    obtain ⟨F1, s1, e1⟩ := Ghost.frz i er
    obtain ⟨F2, s2, e2⟩ := ih e1
    exact ⟨F2, s1.trans s2, e2⟩
end
end Dn

/-! Den4.lean -/
namespace Dn
open PySem PySem.Spec PyProof.Rows L2

/-! ### operators by values -/
def op? {α : Type} : Option α → Res α
  | some d => .ok d
  | none => .err
@[simp] theorem op?_some {α : Type} (a : α) : op? (some a) = Res.ok a := rfl
@[simp] theorem op?_none {α : Type} : op? (none : Option α) = Res.err := rfl
def dBin (f : D → D → Option D) (a b : Env → Res D) : Env → Res D := fun env => (a env).bind fun x => (b env).bind fun y => op? (f x y)
def dUn (f : D → Option D) (a : Env → Res D) : Env → Res D := fun env => (a env).bind fun x => op? (f x)
/-- what a rule by values must give: a thing -/
def OpS (Γ : Gm) (r : R2) (f : D → D → Option D) : Prop := ∀ {F H : Hp} {x y : D} {v w : V} {Q : VK} {d : D}, Same F H → RepT Γ F H x v → RepT Γ F H y w → f x y = some d →
  (∀ u F' H', Gr F H F' H' → Rep Γ F' d u → Q u H') → r v w H Q
/-- .. a new object -/
def OpN (Γ : Gm) (r : R2) (f : D → D → Option D) : Prop := ∀ {F H : Hp} {x y : D} {v w : V} {Q : VK} {d : D}, Same F H → RepT Γ F H x v → RepT Γ F H y w → f x y = some d →
  (∀ p F' H', Gr F H F' H' → F' p = none → H p = none → Top Γ F' H' p d → Q (.ref p) H') → r v w H Q
section
variable {X : Cx} {Γ : Gm} {W : WX} {pos : Pos} {a b : Expr}
theorem OpN.s {r : R2} {f : D → D → Option D} (h : OpN Γ r f) (hf : ∀ x y d, f x y = some d → flat d = true) : OpS Γ r f := fun {F H x y v w Q d} s rx ry e k => by
  refine h s rx ry e fun p F' H' g fp hp t => ?_
  obtain ⟨F2, g2, r2⟩ := fresh_gr g fp hp t fun c ds hd => by have := hf x y d e; rw [hd] at this; cases this
  exact k _ F2 H' g2 r2
theorem bin_s {r : R2} {f : D → D → Option D} {da db : Env → Res D} {Q : VK} {σ : L2.St} {H : Hp} (hr : OpS Γ r f)
    (h : tE Γ W (dBin f da db) σ H Q) : tOp r (tW Γ W da) (tW Γ W db) σ H Q := by
  obtain ⟨G, env, F, er, h⟩ := h
  refine ⟨G, env, F, er, h.bind.imp fun x F1 H1 _ g1 h1 v r1 => ⟨G, env, F1, er.gr g1, h1.bind.imp fun y F2 H2 _ g2 h2 w r2 => ?_⟩⟩
  have e2 := (er.gr g1).gr g2
  cases z : f x y with
  | none => rw [z] at h2; exact h2.elim
  | some d =>
    rw [z] at h2
    exact hr e2.fh (r1.gr g2) r2 z fun u F' H' g r => h2 F' H' g u r
theorem bin_n {r : R2} {f : D → D → Option D} {da db : Env → Res D} {Q : VK} {σ : L2.St} {H : Hp} (hr : OpN Γ r f)
    (h : tN Γ W (dBin f da db) σ H Q) : tOp r (tW Γ W da) (tW Γ W db) σ H Q := by
  obtain ⟨G, env, F, er, h⟩ := h
  refine ⟨G, env, F, er, h.bind.imp fun x F1 H1 _ g1 h1 v r1 => ⟨G, env, F1, er.gr g1, h1.bind.imp fun y F2 H2 _ g2 h2 w r2 => ?_⟩⟩
  have e2 := (er.gr g1).gr g2
  cases z : f x y with
  | none => rw [z] at h2; exact h2.elim
  | some d =>
    rw [z] at h2
    refine hr e2.fh (r1.gr g2) r2 z fun p F' H' g fp hp t => h2 F' H' g p ?_ fp t
    cases q : H p with
    | none => rfl
    | some o => have := (g1.trans g2).hh p o q; rw [hp] at this; cases this
theorem e_bin {op : Operator} {r : R2} {f : D → D → Option D} {da db : Env → Res D} (ho : OpR X (binaryOp op) r) (hr : OpS Γ r f) (ha : PE X a (tW Γ W da)) (hb : PE X b (tW Γ W db)) : PE X (.BinOp a op b pos) (tE Γ W (dBin f da db)) :=
  PE.w (pe_op ho ha hb) fun _ _ _ h => bin_s hr h
theorem n_bin {op : Operator} {r : R2} {f : D → D → Option D} {da db : Env → Res D} (ho : OpR X (binaryOp op) r) (hr : OpN Γ r f) (ha : PE X a (tW Γ W da)) (hb : PE X b (tW Γ W db)) : PE X (.BinOp a op b pos) (tN Γ W (dBin f da db)) :=
  PE.w (pe_op ho ha hb) fun _ _ _ h => bin_n hr h
theorem e_cmp {op : CmpOp} {r : R2} {f : D → D → Option D} {da db : Env → Res D} (ho : OpR X (compareOp op) r) (hr : OpS Γ r f) (ha : PE X a (tW Γ W da)) (hb : PE X b (tW Γ W db)) (hm : behindInMarks op b = false := by rfl) : PE X (.Compare a [op] [b] pos) (tE Γ W (dBin f da db)) :=
  PE.w (pe_cmpR ho ha hb hm) fun _ _ _ h => bin_s hr h
theorem OpS.or {r r' : R2} {f g : D → D → Option D} (h : OpS Γ r f) (h' : OpS Γ r' g) : OpS Γ (fun x y H Q => r x y H Q ∨ r' x y H Q) (fun x y => (f x y).or (g x y)) := fun {F H x y v w Q d} s rx ry e k => by
  have e : (f x y).or (g x y) = some d := e
  cases z : f x y with
  | some d' => rw [z] at e; cases e; exact .inl (h s rx ry z k)
  | none => rw [z] at e; exact .inr (h' s rx ry e k)

/-! ### what stands for what -/
theorem RepT.int {F H : Hp} {i : Int} {v : V} : RepT Γ F H (.int i) v → v = .int i
  | .inl h => by rw [Rep] at h; exact h
  | .inr ⟨_, _, t⟩ => t.elim
theorem RepT.bl {F H : Hp} {i : Bool} {v : V} : RepT Γ F H (.bl i) v → v = .bl i
  | .inl h => by rw [Rep] at h; exact h
  | .inr ⟨_, _, t⟩ => t.elim
theorem RepT.non {F H : Hp} {v : V} : RepT Γ F H .non v → v = .non
  | .inl h => by rw [Rep] at h; exact h
  | .inr ⟨_, _, t⟩ => t.elim
theorem RepT.str {F H : Hp} {i : Str} {v : V} : RepT Γ F H (.str i) v → v = .str i ∧ sOk i = true
  | .inl h => by rw [Rep] at h; exact h
  | .inr ⟨_, _, t⟩ => t.elim
theorem RepT.lst {F H : Hp} {ds : List D} {v : V} (s : Same F H) : RepT Γ F H (.lst ds) v → ∃ a vs, v = .ref a ∧ H a = some (.lst vs) ∧ ds.length ≤ sizeLine ∧ Reps Γ F ds vs
  | .inl h => by rw [Rep] at h; obtain ⟨a, vs, e, q, l, r⟩ := h; exact ⟨a, vs, e, s _ _ q, l, r⟩
  | .inr ⟨a, e, vs, q, l, r⟩ => ⟨a, vs, e, q, l, r⟩
theorem RepT.tup {F H : Hp} {ds : List D} {v : V} (s : Same F H) : RepT Γ F H (.tup ds) v → ∃ a vs, v = .ref a ∧ SqT Γ.K H a vs ∧ ds.length ≤ sizeLine ∧ Reps Γ F ds vs
  | .inl h => by rw [Rep] at h; obtain ⟨a, vs, e, q, l, r⟩ := h; exact ⟨a, vs, e, Same.sqt s q, l, r⟩
  | .inr ⟨_, _, t⟩ => t.elim
theorem RepT.scr {F H : Hp} {ns : List Int} {v : V} (s : Same F H) : RepT Γ F H (.scr ns) v → ∃ a, v = .ref a ∧ ns.length ≤ sizeLine ∧ SqL Γ.K H a (ns.map V.int)
  | .inl h => by rw [Rep] at h; obtain ⟨a, e, l, q, _⟩ := h; exact ⟨a, e, l, s.seq q⟩
  | .inr ⟨_, _, t⟩ => t.elim
theorem reps_ints {F : Hp} : ∀ {ns : List Int}, Reps Γ F (ns.map D.int) (ns.map V.int)
  | [] => .nil
  | n :: ns => .cons (by rw [Rep]) reps_ints

theorem sOk_len {s : Str} (h : sOk s = true) : s.length ≤ sizeLine := by
  unfold sOk at h; rw [Bool.and_eq_true] at h; exact of_decide_eq_true h.1
theorem sOk_ok {s : Str} (h : sOk s = true) : PyData.strOk s = true := by
  unfold sOk at h; rw [Bool.and_eq_true] at h; exact h.2
theorem sOk_mk {s : Str} (h1 : s.length ≤ sizeLine) (h2 : ∀ c ∈ s.cps.toList, c < 0x110000) : sOk s = true := by
  unfold sOk; rw [Bool.and_eq_true]; refine ⟨decide_eq_true h1, ?_⟩
  unfold PyData.strOk
  rw [Array.all_eq_true]
  intro i hi
  exact decide_eq_true (h2 _ (by simp))
theorem sOk_cps {s : Str} (h : sOk s = true) : ∀ c ∈ s.cps.toList, c < 0x110000 := by
  have := sOk_ok h
  unfold PyData.strOk at this
  rw [Array.all_eq_true] at this
  intro c hc
  obtain ⟨i, hi, e⟩ := List.getElem_of_mem hc
  have z := this i (by simpa using hi)
  rw [← e]
  simpa using z
theorem sOk_append {s t : Str} (h : sOk s = true) (k : sOk t = true) (l : s.length + t.length ≤ sizeLine) : sOk (s ++ t) = true := by
  have e : (s ++ t).cps = s.cps ++ t.cps := rfl
  refine sOk_mk (by show (s ++ t).cps.size ≤ _; rw [e, Array.size_append]; exact l) fun c hc => ?_
  rw [e, Array.toList_append, List.mem_append] at hc
  rcases hc with z | z
  · exact sOk_cps h c z
  · exact sOk_cps k c z

/-- a new list laid at p -/
theorem gr_new {F H : Hp} {p : Addr} {o : HO} (s : Same F H) (hp : H p = none) : Gr F H F (upd H p o) ∧ F p = none := by
  have fp : F p = none := by
    cases q : F p with
    | none => rfl
    | some u => have := s p u q; rw [hp] at this; cases this
  have hh : Same H (upd H p o) := fun b u q => by rw [upd_ne (ne_of_none q hp)]; exact q
  exact ⟨⟨Same.refl _, s.trans hh, hh, fun _ _ q => .inl q⟩, fp⟩

theorem fresh_tup {F H : Hp} {p : Addr} {ds : List D} {vs : List V} (s : Same F H) (hp : H p = none) (r : Reps Γ F ds vs) (hl : ds.length ≤ sizeLine) :
    ∃ F2, Gr F H F2 (upd H p (.tup vs)) ∧ Rep Γ F2 (.tup ds) (.ref p) := by
  obtain ⟨g, fp⟩ := gr_new (o := .tup vs) s hp
  have sf : Same F (upd F p (.tup vs)) := fun b u q => by rw [upd_ne (ne_of_none q fp)]; exact q
  refine ⟨upd F p (.tup vs), ⟨sf, fun b u q => ?_, g.hh, fun b u q => ?_⟩, ?_⟩
  · by_cases hb : b = p
    · subst hb; rw [upd_same] at q ⊢; exact q
    · rw [upd_ne hb] at q ⊢; exact s _ _ q
  · by_cases hb : b = p
    · subst hb; exact .inr hp
    · rw [upd_ne hb] at q; exact .inl q
  · rw [Rep]; exact ⟨p, vs, rfl, SqT.of upd_same, hl, r.mono sf⟩

/-! ### + - * // % ** -/
def dAdd : D → D → Option D
  | .int i, .int j => some (.int (i + j))
  | .str s, .str t => if s.length + t.length ≤ sizeLine then some (.str (s ++ t)) else none
  | .lst xs, .lst ys => if xs.length + ys.length ≤ sizeLine then some (.lst (xs ++ ys)) else none
  | .tup xs, .tup ys => if xs ≠ [] ∧ xs.length + ys.length ≤ sizeLine then some (.tup (xs ++ ys)) else none
  | _, _ => none
def dCat : D → D → Option D
  | .lst xs, .lst ys => if xs.length + ys.length ≤ sizeLine then some (.lst (xs ++ ys)) else none
  | _, _ => none
theorem ops_cat : OpN Γ rCat dCat := fun {F H x y v w Q d} s rx ry e k => by
  unfold dCat at e
  split at e
  · rename_i xs ys
    obtain ⟨a, vs, rfl, ha, la, ra⟩ := rx.lst s
    obtain ⟨b, ws, rfl, hb, lb, rb⟩ := ry.lst s
    split at e
    · rename_i hl
      cases e
      refine ⟨a, b, vs, ws, rfl, rfl, ha, hb, by rw [ra.length, rb.length]; exact hl, fun p hp => ?_⟩
      obtain ⟨g, fp⟩ := gr_new (o := .lst (vs ++ ws)) s hp
      exact k p F _ g fp hp ⟨vs ++ ws, upd_same, by rw [List.length_append]; exact hl, ra.append rb⟩
    · cases e
  · cases e
theorem add_rule (hk : Γ.K = X.K) : OpR X (binaryOp .Add) (fun x y H Q => rI0 (fun i j => .int (i + j)) x y H Q ∨ (fun x y H Q => (∃ i j, x = V.str i ∧ y = V.str j ∧ i.length + j.length ≤ sizeLine ∧ Q (.str (i ++ j)) H)) x y H Q ∨ rCat x y H Q ∨ rCatT Γ.K x y H Q) := by
  rw [hk]; exact op_add.or (op_add_str.or (op_cat.or op_catT))
theorem add_ops : OpS Γ (fun x y H Q => rI0 (fun i j => .int (i + j)) x y H Q ∨ (fun x y H Q => (∃ i j, x = V.str i ∧ y = V.str j ∧ i.length + j.length ≤ sizeLine ∧ Q (.str (i ++ j)) H)) x y H Q ∨ rCat x y H Q ∨ rCatT Γ.K x y H Q) dAdd := fun {F H x y v w Q d} s rx ry e k => by
  unfold dAdd at e
  split at e
  · rename_i i j; cases e
    exact .inl ⟨i, j, rx.int, ry.int, k _ F H (Gr.refl s) (by rw [Rep])⟩
  · rename_i i j
    split at e
    · rename_i hl; cases e
      obtain ⟨e1, o1⟩ := rx.str
      obtain ⟨e2, o2⟩ := ry.str
      exact .inr (.inl ⟨i, j, e1, e2, hl, k _ F H (Gr.refl s) (by rw [Rep]; exact ⟨rfl, sOk_append o1 o2 hl⟩)⟩)
    · cases e
  · rename_i xs ys
    refine .inr (.inr (.inl ?_))
    exact (OpN.s ops_cat fun x y d h => by unfold dCat at h; split at h <;> (try split at h) <;> cases h <;> rfl) s rx ry (show dCat (.lst xs) (.lst ys) = some d from e) k
  · rename_i xs ys
    split at e
    · rename_i hl; cases e
      obtain ⟨a, vs, rfl, ha, la, ra⟩ := rx.tup s
      obtain ⟨b, ws, rfl, hb, lb, rb⟩ := ry.tup s
      refine .inr (.inr (.inr ⟨a, b, vs, ws, rfl, rfl, ha, hb, fun z => ?_, by rw [ra.length, rb.length]; exact hl.2, fun z => ?_, fun z p hp => ?_⟩))
      · have := ra.length; rw [z] at this; exact hl.1 (List.length_eq_zero_iff.mp this.symm)
      · have h0 := rb.length; rw [z] at h0
        have e0 : ys = [] := List.length_eq_zero_iff.mp h0.symm
        subst e0
        rw [List.append_nil]  at k
        rcases rx with h | ⟨a', e', t⟩
        · exact k _ F H (Gr.refl s) h
        · exact t.elim
      · skip
        obtain ⟨F2, g2, r2⟩ := fresh_tup s hp (ra.append rb) (by rw [List.length_append]; exact hl.2)
        exact k _ F2 _ g2 r2
    · cases e
  · cases e
end
end Dn

/-! Den5.lean -/
namespace Dn
open PySem PySem.Spec PyProof.Rows L2

section
variable {X : Cx} {Γ : Gm} {W : WX} {pos : Pos} {a b c : Expr} {rest : List Expr}
theorem rep_int {F : Hp} {i : Int} : Rep Γ F (.int i) (.int i) := by rw [Rep]
theorem rep_bl {F : Hp} {i : Bool} : Rep Γ F (.bl i) (.bl i) := by rw [Rep]
/-- two ints -/
def dII (C : Int → Int → Bool) (g : Int → Int → Int) : D → D → Option D
  | .int i, .int j => if C i j = true then some (.int (g i j)) else none
  | _, _ => none
theorem ops_II {C : Int → Int → Bool} {C' : Int → Int → Prop} {g : Int → Int → Int} (h : ∀ i j, C i j = true → C' i j) : OpS Γ (rI C' fun i j => .int (g i j)) (dII C g) := fun {F H x y v w Q d} s rx ry e k => by
  unfold dII at e
  split at e
  · rename_i i j
    split at e
    · rename_i hc; cases e
      exact ⟨i, j, rx.int, ry.int, h i j hc, k _ F H (Gr.refl s) rep_int⟩
    · cases e
  · cases e
def dSub : D → D → Option D
  | .int i, .int j => some (.int (i - j))
  | _, _ => none
theorem ops_sub : OpS Γ (rI0 fun i j => .int (i - j)) dSub := fun {F H x y v w Q d} s rx ry e k => by
  unfold dSub at e
  split at e
  · rename_i i j; cases e
    exact ⟨i, j, rx.int, ry.int, k _ F H (Gr.refl s) rep_int⟩
  · cases e
def cMul (i j : Int) : Bool := decide (-(2 ^ 64) < i ∧ i < 2 ^ 64) || decide (-(2 ^ 64) < j ∧ j < 2 ^ 64)
def cDiv (i j : Int) : Bool := decide (0 < j) && decide (j.natAbs.log2 < 9000)
def cMod (i j : Int) : Bool := decide (0 < j)
def cPow (i j : Int) : Bool := decide (0 ≤ j) && decide (j ≤ 1000000) && decide (i.natAbs < 2 ^ 64)
/-- a list times an int -/
def dRep : D → D → Option D
  | .lst xs, .int k => if -(2 ^ 63) ≤ k ∧ k < 2 ^ 63 ∧ xs.length * k.toNat ≤ sizeLine then some (.lst (List.replicate k.toNat xs).flatten) else none
  | _, _ => none
theorem Reps.rep {F : Hp} {ds : List D} {vs : List V} (r : Reps Γ F ds vs) : ∀ k : Nat, Reps Γ F (List.replicate k ds).flatten (List.replicate k vs).flatten
  | 0 => by simp; exact .nil
  | k + 1 => by rw [List.replicate_succ, List.replicate_succ, List.flatten_cons, List.flatten_cons]; exact r.append (Reps.rep r k)
theorem ops_rep : OpN Γ rRep dRep := fun {F H x y v w Q d} s rx ry e k => by
  unfold dRep at e
  split at e
  · rename_i xs j
    obtain ⟨a, vs, rfl, ha, la, ra⟩ := rx.lst s
    split at e
    · rename_i hl
      cases e
      refine ⟨a, j, vs, rfl, ry.int, ha, hl.1, hl.2.1, by rw [ra.length]; exact hl.2.2, fun p hp => ?_⟩
      obtain ⟨g, fp⟩ := gr_new (o := .lst (List.replicate j.toNat vs).flatten) s hp
      exact k p F _ g fp hp ⟨_, upd_same, by rw [List.length_flatten, List.map_replicate, List.sum_replicate_nat, Nat.mul_comm]; exact hl.2.2, ra.rep _⟩
    · cases e
  · cases e
def dMulI : D → D → Option D := dII cMul fun i j => i * j
def dMul : D → D → Option D := fun x y => (dMulI x y).or (dRep x y)
def dFdiv : D → D → Option D := dII cDiv fun i j => i / j
def dMod : D → D → Option D := dII cMod fun i j => i % j
def dPow : D → D → Option D := dII cPow fun i j => i ^ j.toNat
variable {da db dc : Env → Res D}
theorem e_add (hk : Γ.K = X.K) (ha : PE X a (tW Γ W da)) (hb : PE X b (tW Γ W db)) : PE X (.BinOp a .Add b pos) (tE Γ W (dBin dAdd da db)) := e_bin (add_rule hk) add_ops ha hb
theorem n_cat (ha : PE X a (tW Γ W da)) (hb : PE X b (tW Γ W db)) : PE X (.BinOp a .Add b pos) (tN Γ W (dBin dCat da db)) := n_bin op_cat ops_cat ha hb
theorem e_sub (ha : PE X a (tW Γ W da)) (hb : PE X b (tW Γ W db)) : PE X (.BinOp a .Sub b pos) (tE Γ W (dBin dSub da db)) := e_bin op_sub ops_sub ha hb
theorem e_mul (ha : PE X a (tW Γ W da)) (hb : PE X b (tW Γ W db)) : PE X (.BinOp a .Mult b pos) (tE Γ W (dBin dMul da db)) :=
  e_bin (op_mul.or op_rep) (OpS.or (ops_II fun i j h => by
    unfold cMul at h; rw [Bool.or_eq_true] at h
    rcases h with h | h
    · exact .inl (of_decide_eq_true h)
    · exact .inr (of_decide_eq_true h)) (OpN.s ops_rep fun x y d h => by unfold dRep at h; split at h <;> (try split at h) <;> cases h <;> rfl)) ha hb
theorem n_rep (ha : PE X a (tW Γ W da)) (hb : PE X b (tW Γ W db)) : PE X (.BinOp a .Mult b pos) (tN Γ W (dBin dRep da db)) := n_bin op_rep ops_rep ha hb
theorem e_fdiv (ha : PE X a (tW Γ W da)) (hb : PE X b (tW Γ W db)) : PE X (.BinOp a .FloorDiv b pos) (tE Γ W (dBin dFdiv da db)) := e_bin op_fdivW (ops_II fun i j h => by
  unfold cDiv at h; rw [Bool.and_eq_true] at h; exact ⟨of_decide_eq_true h.1, of_decide_eq_true h.2⟩) ha hb
theorem e_mod (ha : PE X a (tW Γ W da)) (hb : PE X b (tW Γ W db)) : PE X (.BinOp a .Mod b pos) (tE Γ W (dBin dMod da db)) := e_bin op_mod (ops_II fun i j h => of_decide_eq_true h) ha hb
theorem e_pow (ha : PE X a (tW Γ W da)) (hb : PE X b (tW Γ W db)) : PE X (.BinOp a .Pow b pos) (tE Γ W (dBin dPow da db)) := e_bin op_pow (ops_II fun i j h => by
  unfold cPow at h; rw [Bool.and_eq_true, Bool.and_eq_true] at h; exact ⟨of_decide_eq_true h.1.1, of_decide_eq_true h.1.2, of_decide_eq_true h.2⟩) ha hb
def dNeg : D → Option D
  | .int i => some (.int (-i))
  | _ => none
theorem e_neg (ha : PE X a (tE Γ W da)) : PE X (.UnaryOp .USub a pos) (tE Γ W (dUn dNeg da)) := PE.w (pe_un un_neg ha) fun σ H Q ⟨G, env, F, er, h⟩ => by
  refine ⟨G, env, F, er, h.bind.imp fun x F1 H1 _ g1 h1 v r1 => ?_⟩
  cases x <;> first | exact h1.elim | skip
  exact ⟨_, (by rw [Rep] at r1; exact r1), h1.ok (er.gr g1) _ rep_int⟩

/-! ### comparisons -/
def dCI (p : Int → Int → Bool) : D → D → Option D
  | .int i, .int j => some (.bl (p i j))
  | _, _ => none
theorem ops_CI {p : Int → Int → Bool} : OpS Γ (rI0 fun i j => .bl (p i j)) (dCI p) := fun {F H x y v w Q d} s rx ry e k => by
  unfold dCI at e
  split at e
  · rename_i i j; cases e
    exact ⟨i, j, rx.int, ry.int, k _ F H (Gr.refl s) rep_bl⟩
  · cases e
def dLt : D → D → Option D := dCI fun i j => decide (i < j)
def dLe : D → D → Option D := dCI fun i j => decide (i ≤ j)
def dGt : D → D → Option D := dCI fun i j => decide (j < i)
def dGe : D → D → Option D := dCI fun i j => decide (j ≤ i)
theorem e_lt (ha : PE X a (tW Γ W da)) (hb : PE X b (tW Γ W db)) : PE X (.Compare a [.Lt] [b] pos) (tE Γ W (dBin dLt da db)) := e_cmp op_lt ops_CI ha hb (nomark _)
theorem e_le (ha : PE X a (tW Γ W da)) (hb : PE X b (tW Γ W db)) : PE X (.Compare a [.LtE] [b] pos) (tE Γ W (dBin dLe da db)) := e_cmp op_le ops_CI ha hb (nomark _)
theorem e_gt (ha : PE X a (tW Γ W da)) (hb : PE X b (tW Γ W db)) : PE X (.Compare a [.Gt] [b] pos) (tE Γ W (dBin dGt da db)) := e_cmp op_gt ops_CI ha hb (nomark _)
theorem e_ge (ha : PE X a (tW Γ W da)) (hb : PE X b (tW Γ W db)) : PE X (.Compare a [.GtE] [b] pos) (tE Γ W (dBin dGe da db)) := e_cmp op_ge ops_CI ha hb (nomark _)

/-! the library's data -/
mutual
def D.py : D → Option PyData
  | .non => some .none
  | .bl b => some (.bool b)
  | .int i => some (.int i)
  | .str s => some (.str s)
  | .scr ns => some (.list (ns.map PyData.int))
  | .lst ds => (pys ds).map PyData.list
  | .tup ds => (pys ds).map PyData.tuple
  | .ty _ => none
  | .cl _ => none
  | .obj _ _ => none
  | .dic _ _ => none
def pys : List D → Option (List PyData)
  | [] => some []
  | d :: ds => d.py.bind fun p => (pys ds).map fun ps => p :: ps
end
theorem lay_ints : ∀ ns : List Int, PyData.canLayAll0 (ns.map PyData.int) = true
  | [] => by simp [PyData.canLayAll0]
  | n :: ns => by rw [List.map_cons, PyData.canLayAll0, lay_ints ns, PyData.canLay0]; rfl
theorem dp_ints {K : PySem.W.Frag} {H : Hp} : ∀ ns : List Int, DpAll K H (ns.map V.int) (ns.map PyData.int)
  | [] => .nil
  | n :: ns => .cons (.int n) (dp_ints ns)
mutual
theorem dp_of {F H : Hp} (s : Same F H) : ∀ (d : D) (v : V) (p : PyData), Rep Γ F d v → d.py = some p → Dp Γ.K H v p ∧ p.canLay0 = true
  | .non, v, p, h, e => by rw [Rep] at h; simp only [D.py] at e; cases e; subst h; exact ⟨.non, by simp [PyData.canLay0]⟩
  | .bl b, v, p, h, e => by rw [Rep] at h; simp only [D.py] at e; cases e; subst h; exact ⟨.bl b, by simp [PyData.canLay0]⟩
  | .int b, v, p, h, e => by rw [Rep] at h; simp only [D.py] at e; cases e; subst h; exact ⟨.int b, by simp [PyData.canLay0]⟩
  | .str b, v, p, h, e => by rw [Rep] at h; simp only [D.py] at e; cases e; obtain ⟨h, o⟩ := h; subst h; exact ⟨.str b, by simpa [PyData.canLay0] using sOk_ok o⟩
  | .scr ns, v, p, h, e => by
    rw [Rep] at h; simp only [D.py] at e; cases e
    obtain ⟨a, rfl, l, q, _⟩ := h
    exact ⟨.lst (s.seq q) (dp_ints ns), by rw [PyData.canLay0]; exact lay_ints ns⟩
  | .lst ds, v, p, h, e => by
    rw [Rep] at h; simp only [D.py, Option.map_eq_some_iff] at e
    obtain ⟨ps, e, rfl⟩ := e
    obtain ⟨a, vs, rfl, q, l, r⟩ := h
    obtain ⟨h1, h2⟩ := dps_of s ds vs ps r e
    exact ⟨.lst (SqL.of (s _ _ q)) h1, by simpa [PyData.canLay0] using h2⟩
  | .tup ds, v, p, h, e => by
    rw [Rep] at h; simp only [D.py, Option.map_eq_some_iff] at e
    obtain ⟨ps, e, rfl⟩ := e
    obtain ⟨a, vs, rfl, q, l, r⟩ := h
    obtain ⟨h1, h2⟩ := dps_of s ds vs ps r e
    exact ⟨.tup (Same.sqt s q) h1, by simpa [PyData.canLay0] using h2⟩
  | .ty _, _, _, _, e => by simp [D.py] at e
  | .cl _, _, _, _, e => by simp [D.py] at e
  | .obj _ _, _, _, _, e => by simp [D.py] at e
  | .dic _ _, _, _, _, e => by simp [D.py] at e
theorem dps_of {F H : Hp} (s : Same F H) : ∀ (ds : List D) (vs : List V) (ps : List PyData), Reps Γ F ds vs → pys ds = some ps → DpAll Γ.K H vs ps ∧ PyData.canLayAll0 ps = true
  | [], vs, ps, h, e => by rw [h.nil_inv]; simp only [pys] at e; cases e; exact ⟨.nil, by simp [PyData.canLayAll0]⟩
  | d :: ds, vs, ps, h, e => by
    obtain ⟨v, r, rfl, h1, h2⟩ := h.cons_inv
    simp only [pys, Option.bind_eq_some_iff, Option.map_eq_some_iff] at e
    obtain ⟨p, e1, ps', e2, rfl⟩ := e
    obtain ⟨a1, a2⟩ := dp_of s d v p h1 e1
    obtain ⟨b1, b2⟩ := dps_of s ds r ps' h2 e2
    exact ⟨.cons a1 b1, by simp [PyData.canLayAll0, a2, b2]⟩
end
theorem dp_ofT {F H : Hp} (s : Same F H) {d : D} {v : V} {p : PyData} (h : RepT Γ F H d v) (e : d.py = some p) : Dp Γ.K H v p ∧ p.canLay0 = true := by
  rcases h with h | ⟨a, rfl, t⟩
  · exact dp_of s d v p h e
  · cases d <;> first | exact t.elim | skip
    · rename_i ds
      simp only [D.py, Option.map_eq_some_iff] at e
      obtain ⟨ps, e, rfl⟩ := e
      obtain ⟨vs, q, l, r⟩ := t
      obtain ⟨h1, h2⟩ := dps_of s ds vs ps r e
      exact ⟨.lst (SqL.of q) h1, by simpa [PyData.canLay0] using h2⟩
    · simp [D.py] at e
    · simp [D.py] at e
def rEqM (K : PySem.W.Frag) : R2 := fun x y H Q => ∃ d e, Dp K H x d ∧ Dp K H y e ∧ d.canLay0 = true ∧ e.canLay0 = true ∧ min d.depth e.depth ≤ 60 ∧ Q (.bl (PyData.eqv d e)) H
def rNeM (K : PySem.W.Frag) : R2 := fun x y H Q => ∃ d e, Dp K H x d ∧ Dp K H y e ∧ d.canLay0 = true ∧ e.canLay0 = true ∧ min d.depth e.depth ≤ 60 ∧ Q (.bl (!PyData.eqv d e)) H
theorem op_eqM (hu : X.A.units + 64 < cLine) : OpR X (compareOp .Eq) (rEqM X.K) := by
  intro pins s σ H x y v u Q I rx ry h
  obtain ⟨d, e, hd, he, sd, se, hm, q⟩ := h
  obtain ⟨as, r1⟩ := Dp.reads I d x v hd rx
  obtain ⟨bs, r2⟩ := Dp.reads I e y u he ry
  exact SeqAt.compareEq_reads r1 r2 sd se (by omega) ⟨.bl _, H, I, rfl, q⟩
theorem op_neM (hu : X.A.units + 64 < cLine) : OpR X (compareOp .NotEq) (rNeM X.K) := by
  intro pins s σ H x y v u Q I rx ry h
  obtain ⟨d, e, hd, he, sd, se, hm, q⟩ := h
  obtain ⟨as, r1⟩ := Dp.reads I d x v hd rx
  obtain ⟨bs, r2⟩ := Dp.reads I e y u he ry
  exact SeqAt.compareNe_reads r1 r2 sd se (by omega) ⟨.bl _, H, I, rfl, q⟩
def dEqB (x y : D) : Option Bool := x.py.bind fun p => y.py.bind fun q => if min p.depth q.depth ≤ 60 then some (PyData.eqv p q) else none
def dEq (x y : D) : Option D := (dEqB x y).map D.bl
def dNe (x y : D) : Option D := (dEqB x y).map fun k => D.bl (!k)
theorem dEqB_some {x y : D} {k : Bool} (h : dEqB x y = some k) : ∃ p q, x.py = some p ∧ y.py = some q ∧ min p.depth q.depth ≤ 60 ∧ PyData.eqv p q = k := by
  simp only [dEqB, Option.bind_eq_some_iff] at h
  obtain ⟨p, e1, q, e2, h⟩ := h
  split at h
  · rename_i hm; cases h; exact ⟨p, q, e1, e2, hm, rfl⟩
  · cases h
theorem ops_eq : OpS Γ (rEqM Γ.K) dEq := fun {F H x y v w Q d} s rx ry e k => by
  simp only [dEq, Option.map_eq_some_iff] at e
  obtain ⟨b, e, rfl⟩ := e
  obtain ⟨p, q, e1, e2, hm, rfl⟩ := dEqB_some e
  obtain ⟨a1, a2⟩ := dp_ofT s rx e1
  obtain ⟨b1, b2⟩ := dp_ofT s ry e2
  exact ⟨p, q, a1, b1, a2, b2, hm, k _ F H (Gr.refl s) rep_bl⟩
theorem ops_ne : OpS Γ (rNeM Γ.K) dNe := fun {F H x y v w Q d} s rx ry e k => by
  simp only [dNe, Option.map_eq_some_iff] at e
  obtain ⟨b, e, rfl⟩ := e
  obtain ⟨p, q, e1, e2, hm, rfl⟩ := dEqB_some e
  obtain ⟨a1, a2⟩ := dp_ofT s rx e1
  obtain ⟨b1, b2⟩ := dp_ofT s ry e2
  exact ⟨p, q, a1, b1, a2, b2, hm, k _ F H (Gr.refl s) rep_bl⟩
theorem e_eq (hk : Γ.K = X.K) (hu : X.A.units + 64 < cLine) (ha : PE X a (tW Γ W da)) (hb : PE X b (tW Γ W db)) : PE X (.Compare a [.Eq] [b] pos) (tE Γ W (dBin dEq da db)) := e_cmp (r := rEqM Γ.K) (by rw [hk]; exact op_eqM hu) ops_eq ha hb (nomark _)
theorem e_ne (hk : Γ.K = X.K) (hu : X.A.units + 64 < cLine) (ha : PE X a (tW Γ W da)) (hb : PE X b (tW Γ W db)) : PE X (.Compare a [.NotEq] [b] pos) (tE Γ W (dBin dNe da db)) := e_cmp (r := rNeM Γ.K) (by rw [hk]; exact op_neM hu) ops_ne ha hb (nomark _)
/-- is, of None or a truth -/
def D.isNon : D → Bool
  | .non => true
  | _ => false
def D.isBl (k : Bool) : D → Bool
  | .bl j => j == k
  | _ => false
theorem RepT.isNon {F H : Hp} : ∀ {d : D} {v : V}, RepT Γ F H d v → decide (v = .non) = d.isNon
  | d, v, .inr ⟨a, e, t⟩ => by subst e; cases d <;> first | exact t.elim | exact decide_eq_false (fun h => by cases h)
  | d, v, .inl h => by
    cases d <;> rw [Rep] at h <;> first
      | (subst h; rfl)
      | (obtain ⟨a, rfl, _⟩ := h; rfl)
      | (obtain ⟨a, _, rfl, _⟩ := h; rfl)
      | (obtain ⟨a, _, _, rfl, _⟩ := h; rfl)
      | (obtain ⟨rfl, _⟩ := h; rfl)
theorem RepT.isBl {F H : Hp} {k : Bool} : ∀ {d : D} {v : V}, RepT Γ F H d v → decide (v = .bl k) = d.isBl k
  | d, v, .inr ⟨a, e, t⟩ => by subst e; cases d <;> first | exact t.elim | exact decide_eq_false (fun h => by cases h)
  | d, v, .inl h => by
    cases d <;> rw [Rep] at h <;> first
      | (subst h; simp [D.isBl]; done)
      | (subst h; rename_i j; cases j <;> cases k <;> rfl)
      | (obtain ⟨a, rfl, _⟩ := h; rfl)
      | (obtain ⟨a, _, rfl, _⟩ := h; rfl)
      | (obtain ⟨a, _, _, rfl, _⟩ := h; rfl)
      | (obtain ⟨rfl, _⟩ := h; rfl)
theorem op_isC : OpR X (compareOp .Is) (fun x y H Q => ∃ k, y = .bl k ∧ Q (.bl (decide (x = .bl k))) H) := by
  intro pins s σ H x y v u Q I rx ry h
  obtain ⟨k, rfl, q⟩ := h
  cases (show u = Value.bool k from ry)
  cases x with
  | non => cases (show v = Value.none from rx); exact wpAny_is_plain rfl ⟨.bl _, H, I, rfl, q⟩
  | bl j => cases (show v = Value.bool j from rx); exact wpAny_is_plain rfl ⟨.bl _, H, I, by show Value.bool _ = Value.bool _; cases j <;> cases k <;> rfl, q⟩
  | int i => obtain ⟨t, rfl⟩ := rx; exact wpAny_is_plain rfl ⟨.bl _, H, I, rfl, q⟩
  | str i => obtain ⟨t, rfl⟩ := rx; exact wpAny_is_plain rfl ⟨.bl _, H, I, rfl, q⟩
  | byt i => obtain ⟨t, rfl⟩ := rx; exact wpAny_is_plain rfl ⟨.bl _, H, I, rfl, q⟩
  | flt i => obtain ⟨t, rfl⟩ := rx; exact wpAny_is_plain rfl ⟨.bl _, H, I, rfl, q⟩
  | ref i => cases (show v = Value.ref i from rx); exact wpAny_is_plain rfl ⟨.bl _, H, I, rfl, q⟩
  | ty i => cases (show v = Value.type i from rx); exact wpAny_is_plain rfl ⟨.bl _, H, I, rfl, q⟩
theorem op_notC : OpR X (compareOp .IsNot) (fun x y H Q => ∃ k, y = .bl k ∧ Q (.bl (!decide (x = .bl k))) H) := by
  intro pins s σ H x y v u Q I rx ry h
  obtain ⟨k, rfl, q⟩ := h
  cases (show u = Value.bool k from ry)
  cases x with
  | non => cases (show v = Value.none from rx); exact wpAny_isNot_plain rfl ⟨.bl _, H, I, rfl, q⟩
  | bl j => cases (show v = Value.bool j from rx); exact wpAny_isNot_plain rfl ⟨.bl _, H, I, by show Value.bool _ = Value.bool _; cases j <;> cases k <;> rfl, q⟩
  | int i => obtain ⟨t, rfl⟩ := rx; exact wpAny_isNot_plain rfl ⟨.bl _, H, I, rfl, q⟩
  | str i => obtain ⟨t, rfl⟩ := rx; exact wpAny_isNot_plain rfl ⟨.bl _, H, I, rfl, q⟩
  | byt i => obtain ⟨t, rfl⟩ := rx; exact wpAny_isNot_plain rfl ⟨.bl _, H, I, rfl, q⟩
  | flt i => obtain ⟨t, rfl⟩ := rx; exact wpAny_isNot_plain rfl ⟨.bl _, H, I, rfl, q⟩
  | ref i => cases (show v = Value.ref i from rx); exact wpAny_isNot_plain rfl ⟨.bl _, H, I, rfl, q⟩
  | ty i => cases (show v = Value.type i from rx); exact wpAny_isNot_plain rfl ⟨.bl _, H, I, rfl, q⟩
def dIs : D → D → Option D
  | x, .bl k => some (.bl (x.isBl k))
  | x, .non => some (.bl x.isNon)
  | _, _ => none
def dIsNot : D → D → Option D
  | x, .bl k => some (.bl (!x.isBl k))
  | x, .non => some (.bl (!x.isNon))
  | _, _ => none
theorem e_is (ha : PE X a (tW Γ W da)) (hb : PE X b (tW Γ W db)) : PE X (.Compare a [.Is] [b] pos) (tE Γ W (dBin dIs da db)) := e_cmp (op_isC.or op_isN) (fun {F H x y v w Q d} s rx ry e k => by
  unfold dIs at e
  split at e
  · rename_i j; cases e
    exact .inl ⟨j, ry.bl, by rw [rx.isBl]; exact k _ F H (Gr.refl s) rep_bl⟩
  · cases e
    exact .inr ⟨ry.non, by rw [rx.isNon]; exact k _ F H (Gr.refl s) rep_bl⟩
  · cases e) ha hb (nomark _)
theorem e_isnot (ha : PE X a (tW Γ W da)) (hb : PE X b (tW Γ W db)) : PE X (.Compare a [.IsNot] [b] pos) (tE Γ W (dBin dIsNot da db)) := e_cmp (op_notC.or op_notN) (fun {F H x y v w Q d} s rx ry e k => by
  unfold dIsNot at e
  split at e
  · rename_i j; cases e
    exact .inl ⟨j, ry.bl, by rw [rx.isBl]; exact k _ F H (Gr.refl s) rep_bl⟩
  · cases e
    exact .inr ⟨ry.non, by rw [rx.isNon]; exact k _ F H (Gr.refl s) rep_bl⟩
  · cases e) ha hb (nomark _)
end
end Dn

/-! Den6.lean -/
namespace Dn
open PySem PySem.Spec PyProof.Rows L2

/-! ### tests -/
section
variable {X : Cx} {Γ : Gm} {W : WX} {pos : Pos} {a b c : Expr} {rest : List Expr} {da db dc : Env → Res D} {ta tb : Env → Res Bool}
def asB : D → Res Bool
  | .bl k => .ok k
  | _ => .err
def dT (den : Env → Res D) : Env → Res Bool := fun env => (den env).bind asB
/-- a bool comparison as a test -/
theorem t_cmp {op : CmpOp} {r : R2} {f : D → D → Option D} (ho : OpR X (compareOp op) r) (hr : OpS Γ r f) (ha : PE X a (tW Γ W da)) (hb : PE X b (tW Γ W db)) (hm : behindInMarks op b = false) : PT X (.Compare a [op] [b] pos) (tT Γ W (dT (dBin f da db))) :=
  PT.w (pt_cmpR ho ha hb hm) fun σ H Q ⟨G, env, F, er, h⟩ => by
  refine bin_s (f := f) hr ⟨G, env, F, er, h.bind.imp fun x F1 H1 z0 g1 h1 v r1 => ?_⟩
  cases x <;> first | exact h1.elim | skip
  rw [Rep] at r1
  exact ⟨_, r1, h1.ok (er.gr g1)⟩
theorem t_lt (ha : PE X a (tW Γ W da)) (hb : PE X b (tW Γ W db)) : PT X (.Compare a [.Lt] [b] pos) (tT Γ W (dT (dBin dLt da db))) := t_cmp op_lt ops_CI ha hb (nomark _)
theorem t_le (ha : PE X a (tW Γ W da)) (hb : PE X b (tW Γ W db)) : PT X (.Compare a [.LtE] [b] pos) (tT Γ W (dT (dBin dLe da db))) := t_cmp op_le ops_CI ha hb (nomark _)
theorem t_gt (ha : PE X a (tW Γ W da)) (hb : PE X b (tW Γ W db)) : PT X (.Compare a [.Gt] [b] pos) (tT Γ W (dT (dBin dGt da db))) := t_cmp op_gt ops_CI ha hb (nomark _)
theorem t_ge (ha : PE X a (tW Γ W da)) (hb : PE X b (tW Γ W db)) : PT X (.Compare a [.GtE] [b] pos) (tT Γ W (dT (dBin dGe da db))) := t_cmp op_ge ops_CI ha hb (nomark _)
theorem t_eq (hk : Γ.K = X.K) (hu : X.A.units + 64 < cLine) (ha : PE X a (tW Γ W da)) (hb : PE X b (tW Γ W db)) : PT X (.Compare a [.Eq] [b] pos) (tT Γ W (dT (dBin dEq da db))) := t_cmp (r := rEqM Γ.K) (by rw [hk]; exact op_eqM hu) ops_eq ha hb (nomark _)
theorem t_ne (hk : Γ.K = X.K) (hu : X.A.units + 64 < cLine) (ha : PE X a (tW Γ W da)) (hb : PE X b (tW Γ W db)) : PT X (.Compare a [.NotEq] [b] pos) (tT Γ W (dT (dBin dNe da db))) := t_cmp (r := rNeM Γ.K) (by rw [hk]; exact op_neM hu) ops_ne ha hb (nomark _)
theorem ops_is : OpS Γ (fun x y H Q => (fun x y H Q => ∃ k, y = V.bl k ∧ Q (.bl (decide (x = .bl k))) H) x y H Q ∨ (fun x y H Q => y = V.non ∧ Q (.bl (decide (x = .non))) H) x y H Q) dIs := fun {F H x y v w Q d} s rx ry e k => by
  unfold dIs at e
  split at e
  · rename_i j; cases e
    exact .inl ⟨j, ry.bl, by rw [rx.isBl]; exact k _ F H (Gr.refl s) rep_bl⟩
  · cases e
    exact .inr ⟨ry.non, by rw [rx.isNon]; exact k _ F H (Gr.refl s) rep_bl⟩
  · cases e
theorem ops_isnot : OpS Γ (fun x y H Q => (fun x y H Q => ∃ k, y = V.bl k ∧ Q (.bl (!decide (x = .bl k))) H) x y H Q ∨ (fun x y H Q => y = V.non ∧ Q (.bl (!decide (x = .non))) H) x y H Q) dIsNot := fun {F H x y v w Q d} s rx ry e k => by
  unfold dIsNot at e
  split at e
  · rename_i j; cases e
    exact .inl ⟨j, ry.bl, by rw [rx.isBl]; exact k _ F H (Gr.refl s) rep_bl⟩
  · cases e
    exact .inr ⟨ry.non, by rw [rx.isNon]; exact k _ F H (Gr.refl s) rep_bl⟩
  · cases e
theorem t_is (ha : PE X a (tW Γ W da)) (hb : PE X b (tW Γ W db)) : PT X (.Compare a [.Is] [b] pos) (tT Γ W (dT (dBin dIs da db))) := t_cmp (op_isC.or op_isN) ops_is ha hb (nomark _)
theorem t_isnot (ha : PE X a (tW Γ W da)) (hb : PE X b (tW Γ W db)) : PT X (.Compare a [.IsNot] [b] pos) (tT Γ W (dT (dBin dIsNot da db))) := t_cmp (op_notC.or op_notN) ops_isnot ha hb (nomark _)
/-- truth -/
def tru : D → Option Bool
  | .non => some false
  | .bl b => some b
  | .int i => some (i != 0)
  | .str s => some ((s.length : Int) != 0)
  | .lst ds => some (!ds.isEmpty)
  | .scr ns => some (!ns.isEmpty)
  | .tup ds => some (!ds.isEmpty)
  | _ => none
def dTru (den : Env → Res D) : Env → Res Bool := fun env => (den env).bind fun d => op? (tru d)
theorem isEmpty_reps {F : Hp} {ds : List D} {vs : List V} (r : Reps Γ F ds vs) : ds.isEmpty = vs.isEmpty := by
  have := r.length
  cases ds <;> cases vs <;> simp_all
theorem t_tru (hk : Γ.K = X.K) (ha : PE X a (tW Γ W da)) (he : ∀ whole, isTrue a X.env whole = (do let v ← whole; standAt a.pos; holding [v] (truthy v)) := by intro _; rfl) : PT X a (tT Γ W (dTru da)) :=
  PT.w (pt_truth ha he) fun σ H Q ⟨G, env, F, er, h⟩ => by
  refine ⟨G, env, F, er, h.bind.imp fun x F1 H1 z0 g1 h1 v r1 => ?_⟩
  have er1 := er.gr g1
  have s1 := er1.fh
  cases x with
  | non => refine ⟨false, ?_, h1.ok er1⟩; rw [r1.non]; exact rfl
  | bl k => refine ⟨k, ?_, h1.ok er1⟩; rw [r1.bl]; exact rfl
  | int i => refine ⟨i != 0, ?_, h1.ok er1⟩; rw [r1.int]; exact rfl
  | str s => refine ⟨_, ?_, h1.ok er1⟩; obtain ⟨e, o⟩ := r1.str; rw [e]; exact ⟨sOk_len o, rfl⟩
  | lst ds =>
    obtain ⟨p, vs, rfl, q, l, r⟩ := r1.lst s1
    exact ⟨_, .inl ⟨vs, by rw [← hk]; exact SqL.of q, by rw [isEmpty_reps r]⟩, h1.ok er1⟩
  | scr ns =>
    obtain ⟨p, rfl, l, q⟩ := r1.scr s1
    exact ⟨_, .inl ⟨_, by rw [← hk]; exact q, by cases ns <;> rfl⟩, h1.ok er1⟩
  | tup ds =>
    obtain ⟨p, vs, rfl, q, l, r⟩ := r1.tup s1
    exact ⟨_, .inr (.inl ⟨vs, by rw [← hk]; exact q, by rw [isEmpty_reps r]⟩), h1.ok er1⟩
  | _ => exact h1.elim
def dAnd (a b : Env → Res Bool) : Env → Res Bool := fun env => (a env).bind fun k => match k with | true => b env | false => .ok false
def dOr (a b : Env → Res Bool) : Env → Res Bool := fun env => (a env).bind fun k => match k with | true => .ok true | false => b env
def dNot (a : Env → Res Bool) : Env → Res Bool := fun env => (a env).bind fun k => .ok (!k)
theorem PW.w {e : Expr} {t t' : TT} (h : PW X e t) (i : ∀ σ H Q, t' σ H Q → t σ H Q) : PW X e t' := ⟨fun wh pins s σ H Q I q => h.run wh pins s σ H Q I (i σ H Q q)⟩
theorem t_and1 (ha : PT X a (tT Γ W ta)) : PW X (.BoolOp .And [a] pos) (tT Γ W ta) := pw_and1 ha
theorem t_or1 (ha : PT X a (tT Γ W ta)) : PW X (.BoolOp .Or [a] pos) (tT Γ W ta) := pw_or1 ha
theorem t_and (ha : PT X a (tT Γ W ta)) (hb : PW X (.BoolOp .And (b :: rest) pos) (tT Γ W tb)) : PW X (.BoolOp .And (a :: b :: rest) pos) (tT Γ W (dAnd ta tb)) := PW.w (pw_and ha hb) fun σ H Q ⟨G, env, F, er, h⟩ => by
  refine ⟨G, env, F, er, h.bind.imp fun k F1 H1 _ g1 h1 => ?_⟩
  show ite _ _ _
  cases k with
  | true => rw [if_pos rfl]; exact ⟨G, env, F1, er.gr g1, h1⟩
  | false => rw [if_neg Bool.false_ne_true]; exact h1.ok (er.gr g1)
theorem t_or (ha : PT X a (tT Γ W ta)) (hb : PW X (.BoolOp .Or (b :: rest) pos) (tT Γ W tb)) : PW X (.BoolOp .Or (a :: b :: rest) pos) (tT Γ W (dOr ta tb)) := PW.w (pw_or ha hb) fun σ H Q ⟨G, env, F, er, h⟩ => by
  refine ⟨G, env, F, er, h.bind.imp fun k F1 H1 _ g1 h1 => ?_⟩
  show ite _ _ _
  cases k with
  | true => rw [if_pos rfl]; exact h1.ok (er.gr g1)
  | false => rw [if_neg Bool.false_ne_true]; exact ⟨G, env, F1, er.gr g1, h1⟩
theorem t_not (ha : PT X a (tT Γ W ta)) : PT X (.UnaryOp .Not a pos) (tT Γ W (dNot ta)) := PT.w (pt_not ha) fun σ H Q ⟨G, env, F, er, h⟩ =>
  ⟨G, env, F, er, h.bind.imp fun k F1 H1 _ g1 h1 => post.ok (W := W) (er.gr g1) h1⟩
/-- and, or, not as values -/
def dAndV (a b : Env → Res D) : Env → Res D := fun env => (a env).bind fun x => match x with | .bl true => b env | .bl false => .ok (.bl false) | _ => .err
def dOrV (a b : Env → Res D) : Env → Res D := fun env => (a env).bind fun x => match x with | .bl true => .ok (.bl true) | .bl false => b env | _ => .err
def dNotV (a : Env → Res D) : Env → Res D := fun env => (a env).bind fun x => match x with | .bl k => .ok (.bl (!k)) | _ => .err
theorem e_one {op} (h : PE X a (tE Γ W da)) : PE X (.BoolOp op [a] pos) (tE Γ W da) := pe_one h
theorem e_and (ha : PE X a (tE Γ W da)) (hb : PE X (.BoolOp .And (b :: rest) pos) (tE Γ W db)) : PE X (.BoolOp .And (a :: b :: rest) pos) (tE Γ W (dAndV da db)) := PE.w (pe_and ha hb) fun σ H Q ⟨G, env, F, er, h⟩ => by
  refine ⟨G, env, F, er, h.bind.imp fun x F1 H1 z0 g1 h1 v r1 => ?_⟩
  cases x <;> first | exact h1.elim | skip
  rename_i k
  rw [Rep] at r1
  refine ⟨k, r1, ?_⟩
  show ite _ _ _
  cases k with
  | true => rw [if_pos rfl]; exact ⟨G, env, F1, er.gr g1, h1⟩
  | false => rw [if_neg Bool.false_ne_true]; exact h1.ok (er.gr g1) _ rep_bl
theorem e_or (ha : PE X a (tE Γ W da)) (hb : PE X (.BoolOp .Or (b :: rest) pos) (tE Γ W db)) : PE X (.BoolOp .Or (a :: b :: rest) pos) (tE Γ W (dOrV da db)) := PE.w (pe_or ha hb) fun σ H Q ⟨G, env, F, er, h⟩ => by
  refine ⟨G, env, F, er, h.bind.imp fun x F1 H1 z0 g1 h1 v r1 => ?_⟩
  cases x <;> first | exact h1.elim | skip
  rename_i k
  rw [Rep] at r1
  refine ⟨k, r1, ?_⟩
  show ite _ _ _
  cases k with
  | true => rw [if_pos rfl]; exact h1.ok (er.gr g1) _ rep_bl
  | false => rw [if_neg Bool.false_ne_true]; exact ⟨G, env, F1, er.gr g1, h1⟩
theorem e_not (ha : PE X a (tE Γ W da)) : PE X (.UnaryOp .Not a pos) (tE Γ W (dNotV da)) := PE.w (pe_not ha) fun σ H Q ⟨G, env, F, er, h⟩ => by
  refine ⟨G, env, F, er, h.bind.imp fun x F1 H1 z0 g1 h1 v r1 => ?_⟩
  cases x <;> first | exact h1.elim | skip
  rename_i k
  rw [Rep] at r1
  exact ⟨k, r1, h1.ok (er.gr g1) _ rep_bl⟩
def dIfE (t : Env → Res Bool) (a b : Env → Res D) : Env → Res D := fun env => (t env).bind fun k => match k with | true => a env | false => b env
theorem e_if (hc : PT X c (tT Γ W ta)) (ha : PE X a (tE Γ W da)) (hb : PE X b (tE Γ W db)) : PE X (.IfExp c a b pos) (tE Γ W (dIfE ta da db)) := PE.w (pe_ifExp hc ha hb) fun σ H Q ⟨G, env, F, er, h⟩ => by
  refine ⟨G, env, F, er, h.bind.imp fun k F1 H1 _ g1 h1 => ?_⟩
  show ite _ _ _
  cases k with
  | true => rw [if_pos rfl]; exact ⟨G, env, F1, er.gr g1, h1⟩
  | false => rw [if_neg Bool.false_ne_true]; exact ⟨G, env, F1, er.gr g1, h1⟩

/-! ### displays -/
variable {es : List Expr} {dl : Env → Res (List D)}
def dLst (l : Env → Res (List D)) : Env → Res D := fun env => (l env).bind fun ds => if ds.length ≤ sizeLine then .ok (.lst ds) else .err
def dTup (l : Env → Res (List D)) : Env → Res D := fun env => (l env).bind fun ds => if ds.length ≤ sizeLine then .ok (.tup ds) else .err
theorem gr_none {F H F1 H1 : Hp} {p : Addr} (g : Gr F H F1 H1) (hp : H1 p = none) : H p = none := by
  cases q : H p with
  | none => rfl
  | some o => have := g.hh p o q; rw [hp] at this; cases this
theorem n_lst (h : PA X es (tA Γ W dl)) : PE X (.List es pos) (tN Γ W (dLst dl)) := PE.w (pe_lst h) fun σ H Q ⟨G, env, F, er, h⟩ => by
  refine ⟨G, env, F, er, h.bind.imp fun ds F1 H1 _ g1 h1 vs r1 => ?_⟩
  split at h1
  · rename_i hl
    refine ⟨by rw [r1.length]; exact hl, fun p hp => ?_⟩
    obtain ⟨g, fp⟩ := gr_new (o := .lst vs) (er.gr g1).fh hp
    exact h1 F1 _ g p (gr_none g1 hp) fp ⟨vs, upd_same, hl, r1⟩
  · exact h1.elim
theorem flat_lst {dl : Env → Res (List D)} : ∀ env d, dLst dl env = .ok d → flat d = true := fun env d h => by
  unfold dLst at h
  cases z : dl env with
  | ok ds => rw [z] at h; simp only [Res.bind_ok] at h; split at h <;> cases h; rfl
  | exc c fs => rw [z] at h; cases h
  | err => rw [z] at h; cases h
theorem e_lst (h : PA X es (tA Γ W dl)) : PE X (.List es pos) (tE Γ W (dLst dl)) := e_n (n_lst h) flat_lst
theorem e_tup {k : Nat} (h : PA X es (tA Γ W dl)) : PE X (.Tuple es k pos) (tE Γ W (dTup dl)) := PE.w (pe_tup h) fun σ H Q ⟨G, env, F, er, h⟩ => by
  refine ⟨G, env, F, er, h.bind.imp fun ds F1 H1 _ g1 h1 vs r1 => ?_⟩
  split at h1
  · rename_i hl
    refine ⟨by rw [r1.length]; exact hl, fun p hp => ?_⟩
    obtain ⟨F2, g2, r2⟩ := fresh_tup (er.gr g1).fh hp r1 hl
    exact h1 F2 _ g2 _ r2
  · exact h1.elim

/-! ### x[i] -/
def at? (ds : List D) (i : Int) : Option D := atI ds i
theorem atI_reps {F : Hp} {ds : List D} {vs : List V} {i : Int} {d : D} (r : Reps Γ F ds vs) (h : atI ds i = some d) : ∃ v, atI vs i = some v ∧ Rep Γ F d v := by
  unfold atI at h ⊢
  rw [r.length]
  cases z : ixN ds.length i with
  | none => rw [z] at h; cases h
  | some j =>
    rw [z] at h
    obtain ⟨v, a, b⟩ := r.get (i := j) h
    exact ⟨v, a, b⟩
def dIxV : D → D → Option D
  | .lst ds, .int i => atI ds i
  | .tup ds, .int i => atI ds i
  | .scr ns, .int i => (atI ns i).map D.int
  | .str s, .int i => (atI s.cps.toList i).map fun c => .str ⟨#[c]⟩
  | _, _ => none
theorem atI_map {α β : Type} (f : α → β) (xs : List α) (i : Int) : atI (xs.map f) i = (atI xs i).map f := by
  unfold atI
  rw [List.length_map]
  cases ixN xs.length i with
  | none => rfl
  | some j => simp
theorem ops_ix : OpS Γ (rIx Γ.K) dIxV := fun {F H x y v w Q d} s rx ry e k => by
  unfold dIxV at e
  split at e
  · rename_i ds i
    obtain ⟨a, vs, rfl, q, l, r⟩ := rx.lst s
    obtain ⟨u, hu, ru⟩ := atI_reps r e
    exact .inl ⟨a, vs, i, u, rfl, ry.int, SqL.of q, hu, k _ F H (Gr.refl s) ru⟩
  · rename_i ds i
    obtain ⟨a, vs, rfl, q, l, r⟩ := rx.tup s
    obtain ⟨u, hu, ru⟩ := atI_reps r e
    exact .inr (.inl ⟨a, vs, i, u, rfl, ry.int, q, hu, k _ F H (Gr.refl s) ru⟩)
  · rename_i ns i
    obtain ⟨a, rfl, l, q⟩ := rx.scr s
    simp only [Option.map_eq_some_iff] at e
    obtain ⟨n, e, rfl⟩ := e
    exact .inl ⟨a, _, i, .int n, rfl, ry.int, q, by rw [atI_map, e]; rfl, k _ F H (Gr.refl s) rep_int⟩
  · rename_i z i
    obtain ⟨e1, o⟩ := rx.str
    simp only [Option.map_eq_some_iff] at e
    obtain ⟨c, e, rfl⟩ := e
    refine .inr (.inr ⟨z, i, c, e1, ry.int, sOk_len o, e, k _ F H (Gr.refl s) ?_⟩)
    rw [Rep]
    refine ⟨rfl, sOk_mk (by show 1 ≤ sizeLine; decide) fun x hx => ?_⟩
    have hx : x = c := by simpa using hx
    subst hx
    unfold atI at e
    cases z2 : ixN z.cps.toList.length i with
    | none => rw [z2] at e; cases e
    | some j =>
      rw [z2] at e
      exact sOk_cps o _ (List.mem_of_getElem? e)
  · cases e
theorem e_ix (hk : Γ.K = X.K) (ha : PE X a (tW Γ W da)) (hb : PE X b (tW Γ W db)) (hs : PlainIx b := by exact fun _ _ => rfl) : PE X (.Subscript a b pos) (tE Γ W (dBin dIxV da db)) :=
  PE.w (pe_ix (r := rIx Γ.K) (by rw [hk]; exact ix_seq) ha hb hs) fun σ H Q h => bin_s ops_ix h

/-! ### slices -/
def dPart (den : Env → Res D) : Env → Res (Option Int) := fun env => (den env).bind fun d => match d with | .int i => .ok (some i) | _ => .err
def dNoP : Env → Res (Option Int) := fun _ => .ok none
def tO (Γ : Gm) (W : WX) (den : Env → Res (Option Int)) : TO := fun σ H Q => ∃ G env F, ER Γ G env σ F H ∧ post Γ W σ F H (den env) (fun o _ H' => Q o H')
theorem PO.w {e : Option Expr} {t t' : TO} (h : PO X e t) (i : ∀ σ H Q, t' σ H Q → t σ H Q) : PO X e t' := ⟨fun pins s σ H Q I q => h.run pins s σ H Q I (i σ H Q q)⟩
theorem o_none : PO X none (tO Γ W dNoP) := PO.w po_none fun σ H Q ⟨G, env, F, er, h⟩ => h.ok er
theorem o_some (h : PE X a (tE Γ W da)) : PO X (some a) (tO Γ W (dPart da)) := PO.w (po_some h) fun σ H Q ⟨G, env, F, er, h⟩ => by
  refine ⟨G, env, F, er, h.bind.imp fun d F1 H1 z0 g1 h1 v r1 => ?_⟩
  cases d <;> first | exact h1.elim | skip
  rw [Rep] at r1
  exact ⟨_, r1, h1.ok (er.gr g1)⟩
def cutD {α : Type} (xs : List α) (lo hi : Option Int) : List α := (xs.drop (HT.sIx xs.length 0 lo)).take (HT.sIx xs.length xs.length hi - HT.sIx xs.length 0 lo)
theorem cut_reps {F : Hp} {ds : List D} {vs : List V} {lo hi : Option Int} (r : Reps Γ F ds vs) : Reps Γ F (cutD ds lo hi) (cutV vs lo hi) := by
  unfold cutD cutV
  rw [r.length]
  exact (r.drop _).take _
theorem cutD_length {α : Type} (xs : List α) (lo hi : Option Int) : (cutD xs lo hi).length ≤ xs.length := by
  unfold cutD
  rw [List.length_take, List.length_drop]
  omega
/-- a list's slice -/
def dSlL (d : D) (lo hi : Option Int) : Option D := match d with
  | .lst ds => some (.lst (cutD ds lo hi))
  | .scr ns => some (.lst ((cutD ns lo hi).map D.int))
  | _ => none
def dSl (d : D) (lo hi : Option Int) : Option D := match d with
  | .lst ds => some (.lst (cutD ds lo hi))
  | .scr ns => some (.lst ((cutD ns lo hi).map D.int))
  | .str z => some (.str (cutS z lo hi))
  | .tup ds => if HT.sIx ds.length 0 lo = 0 ∧ HT.sIx ds.length ds.length hi = ds.length then none else some (.tup (cutD ds lo hi))
  | _ => none
def dSlice (f : D → Option Int → Option Int → Option D) (a : Env → Res D) (l h : Env → Res (Option Int)) : Env → Res D := fun env => (a env).bind fun x => (l env).bind fun lo => (h env).bind fun hi => op? (f x lo hi)
variable {lo hi : Option Expr} {dlo dhi : Env → Res (Option Int)} {p2 : Pos}
theorem cut_ints (ns : List Int) (lo hi : Option Int) : cutV (ns.map V.int) lo hi = (cutD ns lo hi).map V.int := by
  unfold cutV cutD
  rw [List.length_map, ← List.map_drop, ← List.map_take]
theorem n_slice (hk : Γ.K = X.K) (ha : PE X a (tW Γ W da)) (hl : PO X lo (tO Γ W dlo)) (hh : PO X hi (tO Γ W dhi)) : PE X (.Subscript a (.Slice lo hi none p2) pos) (tN Γ W (dSlice dSlL da dlo dhi)) :=
  PE.w (pe_slice (r := rSlL Γ.K) (by rw [hk]; exact sl_list) ha hl hh) fun σ H Q ⟨G, env, F, er, h⟩ => by
  refine ⟨G, env, F, er, h.bind.imp fun x F1 H1 z0 g1 h1 v r1 => ⟨G, env, F1, er.gr g1, h1.bind.imp fun l F2 H2 z1 g2 h2 => ⟨G, env, F2, (er.gr g1).gr g2, h2.bind.imp fun u F3 H3 z2 g3 h3 => ?_⟩⟩⟩
  have e3 := ((er.gr g1).gr g2).gr g3
  have r3 := (r1.gr g2).gr g3
  have gn := (g1.trans g2).trans g3
  cases x <;> first | exact h3.elim | skip
  · rename_i ns
    obtain ⟨p, rfl, ll, q⟩ := r3.scr e3.fh
    refine ⟨p, _, rfl, q, fun p hp => ?_⟩
    rw [cut_ints]
    obtain ⟨g, fp⟩ := gr_new (o := .lst ((cutD ns l u).map V.int)) e3.fh hp
    exact h3 F3 _ g p (gr_none gn hp) fp ⟨_, upd_same, by rw [List.length_map]; exact Nat.le_trans (cutD_length _ _ _) ll, reps_ints⟩
  · rename_i ds
    obtain ⟨p, vs, rfl, q, ll, r⟩ := r3.lst e3.fh
    refine ⟨p, vs, rfl, SqL.of q, fun p hp => ?_⟩
    obtain ⟨g, fp⟩ := gr_new (o := .lst (cutV vs l u)) e3.fh hp
    exact h3 F3 _ g p (gr_none gn hp) fp ⟨_, upd_same, Nat.le_trans (cutD_length _ _ _) ll, cut_reps r⟩
theorem cutS_ok {z : Str} {lo hi : Option Int} (h : sOk z = true) : sOk (cutS z lo hi) = true := by
  refine sOk_mk ?_ fun c hc => ?_
  · have : (cutS z lo hi).length ≤ z.length := by
      show (((z.cps.toList.drop (HT.sIx z.length 0 lo)).take (HT.sIx z.length z.length hi - HT.sIx z.length 0 lo)).toArray).size ≤ z.cps.size
      rw [List.size_toArray, List.length_take, List.length_drop, Array.length_toList]
      omega
    exact Nat.le_trans this (sOk_len h)
  · have hc : c ∈ (z.cps.toList.drop (HT.sIx z.length 0 lo)).take (HT.sIx z.length z.length hi - HT.sIx z.length 0 lo) := by simpa [cutS] using hc
    exact sOk_cps h c (List.mem_of_mem_drop (List.mem_of_mem_take hc))
theorem e_slice (hk : Γ.K = X.K) (ha : PE X a (tW Γ W da)) (hl : PO X lo (tO Γ W dlo)) (hh : PO X hi (tO Γ W dhi)) : PE X (.Subscript a (.Slice lo hi none p2) pos) (tE Γ W (dSlice dSl da dlo dhi)) :=
  PE.w (pe_slice (r := fun x l h H Q => rSlL Γ.K x l h H Q ∨ (rSlS x l h H Q ∨ rSlT Γ.K x l h H Q)) (by rw [hk]; exact sl_list.or (sl_str.or sl_tup)) ha hl hh) fun σ H Q ⟨G, env, F, er, h⟩ => by
  refine ⟨G, env, F, er, h.bind.imp fun x F1 H1 z0 g1 h1 v r1 => ⟨G, env, F1, er.gr g1, h1.bind.imp fun l F2 H2 z1 g2 h2 => ⟨G, env, F2, (er.gr g1).gr g2, h2.bind.imp fun u F3 H3 z2 g3 h3 => ?_⟩⟩⟩
  have e3 := ((er.gr g1).gr g2).gr g3
  have r3 := (r1.gr g2).gr g3
  cases x <;> first | exact h3.elim | skip
  · rename_i z
    obtain ⟨rfl, o⟩ := r3.str
    exact .inr (.inl ⟨z, rfl, sOk_len o, h3.ok e3 _ (by rw [Rep]; exact ⟨rfl, cutS_ok o⟩)⟩)
  · rename_i ns
    obtain ⟨p, rfl, ll, q⟩ := r3.scr e3.fh
    refine .inl ⟨p, _, rfl, q, fun p hp => ?_⟩
    rw [cut_ints]
    obtain ⟨g, fp⟩ := gr_new (o := .lst ((cutD ns l u).map V.int)) e3.fh hp
    obtain ⟨F4, g4, r4⟩ := fresh_gr (d := .lst ((cutD ns l u).map D.int)) g fp hp ⟨_, upd_same, by rw [List.length_map]; exact Nat.le_trans (cutD_length _ _ _) ll, reps_ints⟩ fun _ _ z => by cases z
    exact h3 F4 _ g4 _ r4
  · rename_i ds
    obtain ⟨p, vs, rfl, q, ll, r⟩ := r3.lst e3.fh
    refine .inl ⟨p, vs, rfl, SqL.of q, fun p hp => ?_⟩
    obtain ⟨g, fp⟩ := gr_new (o := .lst (cutV vs l u)) e3.fh hp
    obtain ⟨F4, g4, r4⟩ := fresh_gr (d := .lst (cutD ds l u)) g fp hp ⟨_, upd_same, Nat.le_trans (cutD_length _ _ _) ll, cut_reps r⟩ fun _ _ z => by cases z
    exact h3 F4 _ g4 _ r4
  · rename_i ds
    obtain ⟨p, vs, rfl, q, ll, r⟩ := r3.tup e3.fh
    unfold dSl at h3
    simp only at h3
    split at h3
    · exact h3.elim
    · rename_i hn
      refine .inr (.inr ⟨p, vs, rfl, q, by rw [r.length]; exact hn, fun p hp => ?_⟩)
      obtain ⟨F4, g4, r4⟩ := fresh_tup e3.fh hp (cut_reps (lo := l) (hi := u) r) (Nat.le_trans (cutD_length _ _ _) ll)
      exact h3 F4 _ g4 _ r4
end
end Dn

/-! Den7.lean -/
namespace Dn
open PySem PySem.Spec PyProof.Rows L2

/-! ### targets -/
/-- a target: what it makes of the names; the names' places -/
structure Tg where
  f : D → Env → Option Env
  sl : List Nat
def tgName (i : Nat) : Tg := ⟨fun d env => some (env.set i (.val d)), [i]⟩
def tgsNil : List D → Env → Option Env := fun ds env => match ds with | [] => some env | _ => none
def tgsCons (t : Tg) (r : List D → Env → Option Env) : List D → Env → Option Env := fun ds env => match ds with
  | d :: ds => (t.f d env).bind fun e => r ds e
  | [] => none
def tgTup (n : Nat) (r : List D → Env → Option Env) (sl : List Nat) : Tg := ⟨fun d env => match d with
  | .tup ds => if ds.length = n then r ds env else none
  | _ => none, sl⟩
section
variable (Γ : Gm)
def Off (sl : List Nat) (σ σ' : L2.St) : Prop := σ'.length = σ.length ∧ ∀ j, j ∉ sl → σ'[j]? = σ[j]?
def tG (g : Tg) : TG := fun v σ H Q => ∃ G env F d, ER Γ G env σ F H ∧ Rep Γ F d v ∧ match g.f d env with
  | some e => ∀ σ', ER Γ G e σ' F H → Off g.sl σ σ' → Q σ' H
  | none => False
def tGs (g : List D → Env → Option Env) (sl : List Nat) : TGs := fun vs σ H Q => ∃ G env F ds, ER Γ G env σ F H ∧ Reps Γ F ds vs ∧ match g ds env with
  | some e => ∀ σ', ER Γ G e σ' F H → Off sl σ σ' → Q σ' H
  | none => False
end
section
variable {X : Cx} {Γ : Gm} {W : WX} {pos : Pos} {e tg : Expr} {es : List Expr}
theorem PG.w {t t' : TG} (h : PG X tg t) (i : ∀ v σ H Q, t' v σ H Q → t v σ H Q) : PG X tg t' := ⟨fun pins s σ H v u Q I r q => h.run pins s σ H v u Q I r (i v σ H Q q)⟩
theorem PGs.w {t t' : TGs} (h : PGs X es t) (i : ∀ v σ H Q, t' v σ H Q → t v σ H Q) : PGs X es t' := ⟨fun pins s σ H v u Q I r q => h.run pins s σ H v u Q I r (i v σ H Q q)⟩
theorem Off.refl (sl : List Nat) (σ : L2.St) : Off sl σ σ := ⟨rfl, fun _ _ => rfl⟩
theorem Off.trans {sl sl' : List Nat} {σ σ1 σ2 : L2.St} (a : Off sl σ σ1) (b : Off sl' σ1 σ2) : Off (sl ++ sl') σ σ2 := ⟨b.1.trans a.1, fun j h => by
  rw [List.mem_append] at h
  exact (b.2 j fun z => h (.inr z)).trans (a.2 j fun z => h (.inl z))⟩
theorem g_name {x : Str} {i : Nat} (h : PG X (.Name x pos) (gName i)) : PG X (.Name x pos) (tG Γ (tgName i)) := PG.w h fun v σ H Q ⟨G, env, F, d, er, r, q⟩ =>
  q _ (er.set i r) ⟨by simp, fun j hj => by
    have : i ≠ j := fun z => hj (by simp [tgName, z])
    rw [List.getElem?_set_ne this]⟩
theorem gs_nil : PGs X [] (tGs Γ tgsNil []) := PGs.w pgs_nil fun vs σ H Q ⟨G, env, F, ds, er, r, q⟩ => by
  cases ds with
  | nil => exact ⟨r.nil_inv, q σ er (Off.refl _ _)⟩
  | cons d ds => exact q.elim
theorem gs_cons {t : Tg} {r : List D → Env → Option Env} {sl : List Nat} (h1 : PG X e (tG Γ t)) (h2 : PGs X es (tGs Γ r sl)) (hs : (assignEach (e :: es) X.env).map (·.2) = assign e X.env :: (assignEach es X.env).map (·.2) := by rfl) :
    PGs X (e :: es) (tGs Γ (tgsCons t r) (t.sl ++ sl)) := PGs.w (pgs_cons h1 h2 hs) fun vs σ H Q ⟨G, env, F, ds, er, rr, q⟩ => by
  cases ds with
  | nil => exact q.elim
  | cons d ds =>
    obtain ⟨v, vr, rfl, r1, r2⟩ := rr.cons_inv
    refine ⟨v, vr, rfl, G, env, F, d, er, r1, ?_⟩
    simp only [tgsCons] at q
    cases z : t.f d env with
    | none => rw [z] at q; exact q.elim
    | some e1 =>
      rw [z] at q
      intro σ' er' o
      refine ⟨G, e1, F, ds, er', r2, ?_⟩
      simp only [Option.bind_some] at q
      cases z2 : r ds e1 with
      | none => rw [z2] at q; exact q.elim
      | some e2 =>
        rw [z2] at q
        exact fun σ2 er2 o2 => q σ2 er2 (o.trans o2)
theorem g_tup {r : List D → Env → Option Env} {sl : List Nat} {k n : Nat} (hk : Γ.K = X.K) (hc : X.calm = true) (h : PGs X es (tGs Γ r sl)) (hn : (assignEach es X.env).length = n := by rfl) (hst : (assignEach es X.env).findIdx? (·.1) = none := by rfl) :
    PG X (.Tuple es k pos) (tG Γ (tgTup n r sl)) := PG.w (pg_tup hc h hn hst) fun v σ H Q ⟨G, env, F, d, er, rr, q⟩ => by
  simp only [tgTup] at q
  cases d with
  | tup ds =>
    rw [Rep] at rr
    obtain ⟨a, vs, rfl, sq, l, r2⟩ := rr
    by_cases hl : ds.length = n
    · simp only [if_pos hl] at q
      exact ⟨a, vs, rfl, by rw [← hk]; exact Same.sqt er.fh sq, by rw [r2.length]; exact hl, G, env, F, ds, er, r2, q⟩
    · simp only [if_neg hl] at q
  | _ => exact q.elim

/-! ### what is walked -/
def tI (Γ : Gm) (W : WX) (den : Env → Res (List D)) : TI := fun σ H R => ∃ G env F, ER Γ G env σ F H ∧ post Γ W σ F H (den env) fun ds F' H' =>
  ∀ (J : It) (Gp : Hp → Prop) (Y : Nat → Hp → V → Hp → Prop), Walk J ds.length Gp Y → ds.length ≤ sizeLine → (∀ F1 H1, Same F' F1 → Same F1 H1 → Gp H1) →
    (∀ i F1 H1 x H2, i < ds.length → Same F' F1 → Same F1 H1 → Y i H1 x H2 → ∃ F2 d, Gr F1 H1 F2 H2 ∧ ds[i]? = some d ∧ Rep Γ F2 d x) → R J H'
def dSeqOf : D → Res (List D)
  | .lst ds => .ok ds
  | .tup ds => .ok ds
  | .scr ns => .ok (ns.map D.int)
  | _ => .err
def dItL (den : Env → Res D) : Env → Res (List D) := fun env => (den env).bind fun d => match d with | .lst ds => .ok ds | .scr ns => .ok (ns.map D.int) | _ => .err
def dItT (den : Env → Res D) : Env → Res (List D) := fun env => (den env).bind fun d => match d with | .tup ds => .ok ds | _ => .err
theorem walk_reps {K : PySem.W.Frag} {Fw : Hp} {ds : List D} {vs : List V} (hr : Reps Γ Fw ds vs) : ∀ i F1 H1 x H2, i < ds.length → Same Fw F1 → Same F1 H1 → YAt vs i H1 x H2 → ∃ F2 d, Gr F1 H1 F2 H2 ∧ ds[i]? = some d ∧ Rep Γ F2 d x := fun i F1 H1 x H2 hi s1 s2 ⟨e, hx⟩ => by
  subst e
  obtain ⟨d, hd, r⟩ := hr.getV hx
  exact ⟨F1, d, Gr.refl s2, hd, r.mono s1⟩
theorem i_list {den : Env → Res D} (hk : Γ.K = X.K) (h : PE X e (tE Γ W den)) : PI X tg e (tI Γ W (dItL den)) := PI.w (pi_list h) fun σ H R ⟨G, env, F, er, q⟩ => by
  refine ⟨G, env, F, er, q.bind.imp fun d F1 H1 z0 g1 q1 v r => ?_⟩
  have er1 := er.gr g1
  cases d <;> first | exact q1.elim | skip
  · rename_i ns
    rw [Rep] at r
    obtain ⟨a, rfl, l, sq, _⟩ := r
    have k := q1.ok er1 (Itl X.K a) (fun H => SqL X.K H a (ns.map V.int)) (YAt (ns.map V.int)) (by rw [List.length_map, ← List.length_map (f := V.int) (as := ns)]; exact walk_list) (by rw [List.length_map]; exact l) (fun F2 H2 s s' => by rw [← hk]; exact s'.seq (s.seq sq)) (walk_reps (K := X.K) (reps_ints (Γ := Γ) (F := F1)))
    exact ⟨a, rfl, ⟨_, by rw [← hk]; exact g1.fh.seq sq⟩, k⟩
  · rename_i ds
    rw [Rep] at r
    obtain ⟨a, vs, rfl, sq, l, r⟩ := r
    have k := q1.ok er1 (Itl X.K a) (fun H => SqL X.K H a vs) (YAt vs) (by rw [← r.length]; exact walk_list) l (fun F2 H2 s s' => SqL.of (s' _ _ (s _ _ sq))) (walk_reps (K := X.K) r)
    exact ⟨a, rfl, ⟨_, SqL.of (g1.fh _ _ sq)⟩, k⟩
theorem i_tup {den : Env → Res D} (hk : Γ.K = X.K) (h : PE X e (tE Γ W den)) : PI X tg e (tI Γ W (dItT den)) := PI.w (pi_tup h) fun σ H R ⟨G, env, F, er, q⟩ => by
  refine ⟨G, env, F, er, q.bind.imp fun d F1 H1 z0 g1 q1 v r => ?_⟩
  have er1 := er.gr g1
  cases d <;> first | exact q1.elim | skip
  rename_i ds
  rw [Rep] at r
  obtain ⟨a, vs, rfl, sq, l, r⟩ := r
  have k := q1.ok er1 (Itt X.K a) (fun H => SqT X.K H a vs) (YAt vs) (by rw [← r.length]; exact walk_tup) l (fun F2 H2 s s' => by rw [← hk]; exact Same.sqt s' (Same.sqt s sq)) (walk_reps (K := X.K) r)
  exact ⟨a, rfl, ⟨_, by rw [← hk]; exact Same.sqt g1.fh sq⟩, k⟩
/-- range -/
def rngD (lo : Int) (n : Nat) : List D := (List.range n).map fun (i : Nat) => D.int (lo + (i : Int))
def dRng1 (den : Env → Res (List D)) : Env → Res (List D) := fun env => (den env).bind fun ds => match ds with
  | [.int j] => if j ≤ 1000000 ∧ -1000000000 ≤ j then .ok (rngD 0 j.toNat) else .err
  | _ => .err
def dRng2 (den : Env → Res (List D)) : Env → Res (List D) := fun env => (den env).bind fun ds => match ds with
  | [.int i, .int j] => if -1000000000 ≤ i ∧ i ≤ 1000000000 ∧ -1000000000 ≤ j ∧ j ≤ 1000000000 ∧ j - i ≤ 1000000 then .ok (rngD i (j - i).toNat) else .err
  | _ => .err
theorem walk_rng {lo : Int} {n : Nat} {Fw : Hp} : ∀ i F1 H1 x H2, i < (rngD lo n).length → Same Fw F1 → Same F1 H1 → YFn (fun i => V.int (lo + i)) i H1 x H2 → ∃ F2 d, Gr F1 H1 F2 H2 ∧ (rngD lo n)[i]? = some d ∧ Rep Γ F2 d x := fun i F1 H1 x H2 hi s1 s2 ⟨e, hx⟩ => by
  subst e hx
  have hi' : i < n := by simpa [rngD] using hi
  exact ⟨F1, .int (lo + i), Gr.refl s2, by simp [rngD, hi'], rep_int⟩
theorem le_line {n : Nat} (h : n ≤ 1000000) : n ≤ sizeLine := Nat.le_trans h (by rw [sizeLine_eq]; decide)
theorem rngD_length (lo : Int) (n : Nat) : (rngD lo n).length = n := by simp [rngD]
theorem i_rng1 {a : Expr} {p : Pos} {dl : Env → Res (List D)} (hg : Gl X "range") (hm : X.mg "range" = none) (ha : PA X [a] (tA Γ W dl)) (hs : starEach [a] X.env = [(false, eval a X.env)] := by rfl) : PI X tg (.Call (.Name "range" p) [a] [] pos) (tI Γ W (dRng1 dl)) :=
  PI.w (pi_range1 hg hm ha hs) fun σ H R ⟨G, env, F, er, q⟩ => by
  refine ⟨G, env, F, er, q.bind.imp fun ds F1 H1 z0 g1 q1 vs r => ?_⟩
  have er1 := er.gr g1
  split at q1
  · rename_i j
    split at q1
    · rename_i hj
      obtain ⟨v, r', rfl, r1, r2⟩ := r.cons_inv
      rw [r2.nil_inv]; rw [Rep] at r1; subst r1
      refine ⟨j, rfl, by omega, by omega, ?_⟩
      refine q1.ok er1 (Itr 0 j.toNat) (fun _ => True) (YFn fun i => V.int (0 + i)) (by rw [rngD_length]; exact walk_range) (by rw [rngD_length]; exact le_line (by omega)) (fun _ _ _ _ => trivial) walk_rng
    · exact q1.elim
  · exact q1.elim
theorem i_rng2 {a b : Expr} {p : Pos} {dl : Env → Res (List D)} (hg : Gl X "range") (hm : X.mg "range" = none) (ha : PA X [a, b] (tA Γ W dl)) (hs : starEach [a, b] X.env = [(false, eval a X.env), (false, eval b X.env)] := by rfl) (hs2 : starEach [b] X.env = [(false, eval b X.env)] := by rfl) : PI X tg (.Call (.Name "range" p) [a, b] [] pos) (tI Γ W (dRng2 dl)) :=
  PI.w (pi_range2 hg hm ha hs hs2) fun σ H R ⟨G, env, F, er, q⟩ => by
  refine ⟨G, env, F, er, q.bind.imp fun ds F1 H1 z0 g1 q1 vs r => ?_⟩
  have er1 := er.gr g1
  split at q1
  · rename_i i j
    split at q1
    · rename_i hj
      obtain ⟨v, r', rfl, r1, r2⟩ := r.cons_inv
      obtain ⟨v', r'', rfl, r1', r2'⟩ := r2.cons_inv
      rw [r2'.nil_inv]; rw [Rep] at r1 r1'; subst r1 r1'
      refine ⟨i, j, rfl, ⟨by omega, by omega, by omega, by omega⟩, ?_⟩
      refine q1.ok er1 (Itr i (j - i).toNat) (fun _ => True) (YFn fun k => V.int (i + k)) (by rw [rngD_length]; exact walk_range) (by rw [rngD_length]; exact le_line (by omega)) (fun _ _ _ _ => trivial) walk_rng
    · exact q1.elim
  · exact q1.elim
/-- enumerate -/
def enumD (ds : List D) : List D := (List.range ds.length).zipWith (fun (i : Nat) d => D.tup [.int (i : Int), d]) ds
theorem enumD_length (ds : List D) : (enumD ds).length = ds.length := by simp [enumD]
theorem enumD_get {ds : List D} {i : Nat} {d : D} (h : ds[i]? = some d) : (enumD ds)[i]? = some (.tup [.int (i : Int), d]) := by
  have hi : i < ds.length := (List.getElem?_eq_some_iff.mp h).1
  unfold enumD
  rw [List.getElem?_zipWith, h]
  simp [hi]
def dEnum (den : Env → Res (List D)) : Env → Res (List D) := fun env => (den env).bind fun ds => match ds with
  | [.lst ds] => .ok (enumD ds)
  | [.scr ns] => .ok (enumD (ns.map D.int))
  | _ => .err
theorem walk_enumD {K : PySem.W.Frag} {Fw : Hp} {ds : List D} {vs : List V} (hr : Reps Γ Fw ds vs) : ∀ i F1 H1 x H2, i < (enumD ds).length → Same Fw F1 → Same F1 H1 → YPair (fun i => some (.int (i : Nat))) (fun i => vs[i]?) i H1 x H2 → ∃ F2 d, Gr F1 H1 F2 H2 ∧ (enumD ds)[i]? = some d ∧ Rep Γ F2 d x := fun i F1 H1 x H2 hi s1 s2 ⟨T, x1, y1, e, hT, e2, hx, hy⟩ => by
  subst e e2; cases hx
  obtain ⟨d, hd, r⟩ := hr.getV hy
  obtain ⟨F2, g2, r2⟩ := fresh_tup (ds := [.int (i : Int), d]) (vs := [.int (i : Nat), y1]) s2 hT (.cons rep_int (.cons (r.mono s1) .nil)) (by show 2 ≤ sizeLine; decide)
  exact ⟨F2, _, g2, enumD_get hd, r2⟩
theorem i_enum {a : Expr} {p tpos : Pos} {elts : List Expr} {kk : Nat} {dl : Env → Res (List D)} (hk : Γ.K = X.K) (hg : Gl X "enumerate") (hm : X.mg "enumerate" = none) (ha : PA X [a] (tA Γ W dl)) (hs : starEach [a] X.env = [(false, eval a X.env)] := by rfl) :
    PI X (.Tuple elts kk tpos) (.Call (.Name "enumerate" p) [a] [] pos) (tI Γ W (dEnum dl)) := PI.w (pi_enum hg hm ha hs) fun σ H R ⟨G, env, F, er, q⟩ => by
  refine ⟨G, env, F, er, q.bind.imp fun ds F1 H1 z0 g1 q1 vs r => ?_⟩
  have er1 := er.gr g1
  split at q1
  · rename_i ds
    obtain ⟨v, r', rfl, r1, r2⟩ := r.cons_inv
    rw [r2.nil_inv]; rw [Rep] at r1
    obtain ⟨a, vs, rfl, sq, l, rr⟩ := r1
    refine ⟨a, vs, rfl, SqL.of (g1.fh _ _ sq), ?_⟩
    exact q1.ok er1 (Ite X.K a) (fun H => SqL X.K H a vs) _ (by rw [enumD_length, ← rr.length]; exact walk_enum) (by rw [enumD_length]; exact l) (fun F2 H2 s s' => SqL.of (s' _ _ (s _ _ sq))) (walk_enumD (K := X.K) rr)
  · rename_i ns
    obtain ⟨v, r', rfl, r1, r2⟩ := r.cons_inv
    rw [r2.nil_inv]; rw [Rep] at r1
    obtain ⟨a, rfl, l, sq, _⟩ := r1
    refine ⟨a, _, rfl, by rw [← hk]; exact g1.fh.seq sq, ?_⟩
    exact q1.ok er1 (Ite X.K a) (fun H => SqL X.K H a (ns.map V.int)) _ (by rw [enumD_length, List.length_map, ← List.length_map (f := V.int) (as := ns)]; exact walk_enum) (by rw [enumD_length, List.length_map]; exact l) (fun F2 H2 s s' => by rw [← hk]; exact s'.seq (s.seq sq)) (walk_enumD (K := X.K) reps_ints)
  · exact q1.elim
/-- a text, sign by sign -/
def signsD (z : Str) : List D := z.cps.toList.map fun c => .str ⟨#[c]⟩
def dItS (den : Env → Res D) : Env → Res (List D) := fun env => (den env).bind fun d => match d with | .str z => .ok (signsD z) | _ => .err
theorem i_str {den : Env → Res D} (h : PE X e (tE Γ W den)) : PI X tg e (tI Γ W (dItS den)) := PI.w (pi_str h) fun σ H R ⟨G, env, F, er, q⟩ => by
  refine ⟨G, env, F, er, q.bind.imp fun d F1 H1 z0 g1 q1 v r => ?_⟩
  have er1 := er.gr g1
  cases d <;> first | exact q1.elim | skip
  rename_i z
  rw [Rep] at r
  obtain ⟨rfl, o⟩ := r
  refine ⟨z, rfl, ?_⟩
  refine q1.ok er1 (Its z) (fun _ => True) _ (by unfold signsD; rw [List.length_map, Array.length_toList]; exact walk_str) (by unfold signsD; rw [List.length_map, Array.length_toList]; exact sOk_len o) (fun _ _ _ _ => trivial) ?_
  rintro i F2 H2 x H3 hi s1 s2 ⟨rfl, c, hc, rfl⟩
  have hc' : z.cps.toList[i]? = some c := by simpa using hc
  refine ⟨F2, .str ⟨#[c]⟩, Gr.refl s2, by unfold signsD; rw [List.getElem?_map, hc']; rfl, ?_⟩
  rw [Rep]
  refine ⟨rfl, sOk_mk (by show 1 ≤ sizeLine; decide) fun x hx => ?_⟩
  have hx : x = c := by simpa using hx
  subst hx
  exact sOk_cps o _ (List.mem_of_getElem? hc')
end
end Dn

/-! Den8.lean -/
namespace Dn
open PySem PySem.Spec PyProof.Rows L2

/-! ### for -/
def dLoop (tgt : D → Env → Option Env) (body : Env → Out) (kl : Env → Env) : List D → Env → Out
  | [], e => .nx e
  | d :: ds, e => match tgt d e with
    | none => .err
    | some e1 => match body e1 with
      | .nx e2 => dLoop tgt body kl ds (kl e2)
      | .ct e2 => dLoop tgt body kl ds (kl e2)
      | .bk e2 => .nx (kl e2)
      | .ret d => .ret d
      | .exc e2 c fs => .exc e2 c fs
      | .err => .err
def dFor (it : Env → Res (List D)) (tgt : Tg) (body : Env → Out) (kl : Env → Env) : Env → Out := fun env => match it env with
  | .ok ds => dLoop tgt.f body kl ds (kl env)
  | .exc c fs => .exc env c fs
  | .err => .err
section
variable {X : Cx} {Γ : Gm} {W : WX} {pos : Pos} {iter tg : Expr} {bd : List Stmt}
theorem s_for {it : Env → Res (List D)} {tgt : Tg} {body : Env → Out} {kl : Env → Env} (hp : PassesOwn (model X.prog X.w) X.A X.env X.xe) (hc : X.calm = true) (hi : PI X tg iter (tI Γ W it)) (hg : PG X tg (tG Γ tgt)) (hb : PSs X bd (tS Γ W body)) (hkl : Ghost Γ kl)
    (hs : ∀ x, foldedSetIterable iter X.env x = pure x := by intro _; rfl) : PS X (.For tg iter bd [] pos) (tS Γ W (dFor it tgt body kl)) := PS.w (ps_for hp hc hi hg hb hs) fun Dd σ H ⟨G, env, F, er, q⟩ => by
  refine ⟨G, env, F, er, ?_⟩
  unfold dFor at q
  cases z : it env with
  | err => rw [z] at q; exact q.elim
  | exc c fs => rw [z] at q; exact fun F' H' d g x => q σ F' H' d g.ff (er.gr g) x
  | ok ds =>
    rw [z] at q
    intro F1 H1 g J Gp Y w _ hG hY
    have er1 := er.gr g
    refine for_it w (fun i σ2 H2 => ∃ e F2, Same F1 F2 ∧ ER Γ G e σ2 F2 H2 ∧ sPost Γ W G Dd F2 (dLoop tgt.f body kl (ds.drop i) e)) ?_ ?_ ?_ ?_
    · obtain ⟨F2, s2, e2⟩ := hkl er1
      exact ⟨_, F2, s2, e2, by rw [List.drop_zero]; exact q.mono (g.ff.trans s2)⟩
    · rintro i σ2 H2 _ ⟨e, F2, s2, e2, _⟩
      exact hG F2 H2 s2 e2.fh
    · rintro i x σ2 H2 H3 hi ⟨e, F2, s2, e2, p2⟩ y
      obtain ⟨F3, d, g3, hd, r3⟩ := hY i F2 H2 x H3 hi s2 e2.fh y
      have hdr : ds.drop i = d :: ds.drop (i + 1) := by
        have h1 : i < ds.length := hi
        rw [List.getElem?_eq_getElem h1] at hd
        cases hd
        exact List.drop_eq_getElem_cons h1
      rw [hdr] at p2
      unfold dLoop at p2
      refine ⟨G, e, F3, d, e2.gr g3, r3, ?_⟩
      cases zt : tgt.f d e with
      | none => rw [zt] at p2; exact p2.elim
      | some e1 =>
        rw [zt] at p2
        intro σ3 er3 _
        refine ⟨G, e1, F3, er3, ?_⟩
        simp only at p2
        have s3 := s2.trans g3.ff
        have again : ∀ {e2' : Env}, sPost Γ W G Dd F2 (dLoop tgt.f body kl (ds.drop (i + 1)) (kl e2')) → ∀ σ' F' H', Same F3 F' → ER Γ G e2' σ' F' H' → ∃ e F2, Same F1 F2 ∧ ER Γ G e σ' F2 H' ∧ sPost Γ W G Dd F2 (dLoop tgt.f body kl (ds.drop (i + 1)) e) := fun {e2'} pp σ' F' H' s' er' => by
          obtain ⟨F4, s4, e4⟩ := hkl er'
          exact ⟨_, F4, s3.trans (s'.trans s4), e4, pp.mono (g3.ff.trans (s'.trans s4))⟩
        cases zb : body e1 with
        | nx e2' => rw [zb] at p2; exact again p2
        | ct e2' => rw [zb] at p2; exact again p2
        | bk e2' =>
          rw [zb] at p2
          intro σ' F' H' s' er'
          obtain ⟨F4, s4, e4⟩ := hkl er'
          exact p2 σ' F4 H' (g3.ff.trans (s'.trans s4)) e4
        | ret d' => rw [zb] at p2; exact fun v e' σ' F' H' s' er' r' => p2 v e' σ' F' H' (g3.ff.trans s') er' r'
        | exc e2' c fs => rw [zb] at p2; exact fun σ' F' H' dd s' er' x' => p2 σ' F' H' dd (g3.ff.trans s') er' x'
        | err => rw [zb] at p2; exact p2.elim
    · rintro σ2 H2 ⟨e, F2, s2, e2, p2⟩
      rw [List.drop_length] at p2
      exact p2 σ2 F2 H2 (Same.refl _) e2
end

/-! ### comprehensions -/
def W0 : WX := fun _ _ _ _ => False
def dCompL (tgt : D → Env → Option Env) (tst : Env → Res Bool) (elt : Env → Res D) (e : Env) : List D → Res (List D)
  | [] => .ok []
  | d :: ds => match tgt d e with
    | none => .err
    | some e1 => match tst e1 with
      | .ok false => dCompL tgt tst elt e ds
      | .ok true => match elt e1 with
        | .ok x => match dCompL tgt tst elt e ds with
          | .ok xs => .ok (x :: xs)
          | _ => .err
        | _ => .err
      | _ => .err
def dComp (it : Env → Res (List D)) (tgt : Tg) (tst : Env → Res Bool) (elt : Env → Res D) (vs : List Nat) : Env → Res D := fun env => (it env).bind fun ds => match dCompL tgt.f tst elt (kills vs env) ds with
  | .ok xs => .ok (.lst xs)
  | _ => .err
section
variable {X : Cx} {Γ : Gm} {W : WX} {pos : Pos} {iter tg elt : Expr} {ifs : List Expr}
theorem PTs.w {t t' : TT} (h : PTs X ifs t) (i : ∀ σ H Q, t' σ H Q → t σ H Q) : PTs X ifs t' := ⟨fun pins s σ H Q I q => h.run pins s σ H Q I (i σ H Q q)⟩
def dYes : Env → Res Bool := fun _ => .ok true
theorem q_nil : PTs X [] (tT Γ W dYes) := PTs.w pts_nil fun σ H Q ⟨G, env, F, er, h⟩ => post.ok (W := W) er h
theorem q_one {c : Expr} {t : Env → Res Bool} (h : PT X c (tT Γ W t)) : PTs X [c] (tT Γ W t) := pts_one h
theorem wipe_get {σ : L2.St} : ∀ {vs : List Nat} {j : Nat}, j ∉ vs → (wipe σ vs)[j]? = σ[j]?
  | [], _, _ => rfl
  | v :: vs, j, h => by
    have h1 : v ≠ j := fun z => h (by simp [z])
    have h2 : j ∉ vs := fun z => h (by simp [z])
    unfold wipe
    rw [List.getElem?_set_ne h1, wipe_get h2]
theorem wipe_in {σ : L2.St} : ∀ {vs : List Nat} {j : Nat}, j ∈ vs → j < σ.length → (wipe σ vs)[j]? = some none
  | v :: vs, j, h, hl => by
    unfold wipe
    by_cases hj : v = j
    · subst hj; rw [List.getElem?_set_self (by rw [wipe_length]; exact hl)]
    · rw [List.getElem?_set_ne hj]
      refine wipe_in ?_ hl
      rcases List.mem_cons.mp h with z | z
      · exact (hj z.symm).elim
      · exact z
theorem wipe_eq {σ σ' : L2.St} {vs : List Nat} (hl : σ'.length = σ.length) (h : ∀ j, j ∉ vs → σ'[j]? = σ[j]?) : wipe σ' vs = wipe σ vs := by
  apply List.ext_getElem?
  intro j
  by_cases hj : j ∈ vs
  · by_cases hlt : j < σ.length
    · rw [wipe_in hj hlt, wipe_in hj (by rw [hl]; exact hlt)]
    · rw [List.getElem?_eq_none (by rw [wipe_length]; omega), List.getElem?_eq_none (by rw [wipe_length]; omega)]
  · rw [wipe_get hj, wipe_get hj]; exact h j hj
theorem kills_length : ∀ {vs : List Nat} {env : Env}, (kills vs env).length = env.length
  | [], _ => rfl
  | v :: vs, env => by
    show (kills vs (env.set v .un)).length = _
    rw [kills_length, List.length_set]
theorem kills_un : ∀ {vs : List Nat} {env : Env} {j : Nat}, (env[j]? = some .un ∨ (j ∈ vs ∧ j < env.length)) → (kills vs env)[j]? = some .un
  | [], _, _, h => by
    rcases h with h | h
    · exact h
    · exact absurd h.1 (by simp)
  | v :: vs, env, j, h => by
    show (kills vs (env.set v .un))[j]? = _
    refine kills_un ?_
    by_cases hj : v = j
    · subst hj
      rcases h with h | h
      · have hl := (List.getElem?_eq_some_iff.mp h).1
        exact .inl (by rw [List.getElem?_set_self hl])
      · exact .inl (by rw [List.getElem?_set_self h.2])
    · rcases h with h | h
      · exact .inl (by rw [List.getElem?_set_ne hj]; exact h)
      · rcases List.mem_cons.mp h.1 with z | z
        · exact (hj z.symm).elim
        · exact .inr ⟨z, by rw [List.length_set]; exact h.2⟩
theorem ER.wiped {G : Gd} {env : Env} {σ : L2.St} {F H : Hp} (er : ER Γ G env σ F H) (vs : List Nat) : ER Γ G (Dn.kills vs env) (wipe σ vs) F H := by
  have go : ∀ (ws : List Nat), (∀ j ∈ ws, j ∈ vs) → ER Γ G (Dn.kills vs env) (wipe σ ws) F H := by
    intro ws
    induction ws with
    | nil => intro _; exact er.kills vs
    | cons v ws ih =>
      intro h
      have ih := ih fun j hj => h j (List.mem_cons_of_mem _ hj)
      unfold wipe
      by_cases hv : v < env.length
      · exact ih.setUn v none (kills_un (.inr ⟨h v List.mem_cons_self, hv⟩))
      · have : (wipe σ ws).set v none = wipe σ ws := List.set_eq_of_length_le (by rw [wipe_length, er.len]; omega)
        rw [this]; exact ih
  exact go vs fun _ h => h

theorem comp_r {own : List (Str × Nat)} {it : Env → Res (List D)} {tgt : Tg} {tst : Env → Res Bool} {de : Env → Res D} {σ : L2.St} {H : Hp} {Q : VK} (hsl : ∀ j ∈ tgt.sl, j ∈ own.map (·.2)) (h : tN Γ W (dComp it tgt tst de (own.map (·.2))) σ H Q) :
    tLc (tI Γ W it) (tG Γ tgt) (tT Γ W0 tst) (tE Γ W0 de) (own.map (·.2)) σ H Q := by
  obtain ⟨G, env, F, er, h⟩ := h
  refine ⟨G, env, F, er, h.bind.imp fun ds F1 H1 z0 g1 h1 => ?_⟩
  have er1 := er.gr g1
  intro J Gp Y w hline hG hY L hL
  cases zz : dCompL tgt.f tst de (kills (own.map (·.2)) env) ds with
  | err => rw [zz] at h1; exact h1.elim
  | exc c fs => rw [zz] at h1; exact h1.elim
  | ok total =>
    rw [zz] at h1
    have fL : F1 L = none := by
      cases q : F1 L with
      | none => rfl
      | some o => have := g1.fh L o q; rw [hL] at this; cases this
    refine lc_it w (fun i H2 => ∃ acc xs F2 rest, Gr F1 H1 F2 H2 ∧ F2 L = none ∧ H2 L = some (.lst acc) ∧ Reps Γ F2 xs acc ∧ xs.length ≤ i ∧ dCompL tgt.f tst de (kills (own.map (·.2)) env) (ds.drop i) = .ok rest ∧ total = xs ++ rest) ?_ ?_ ?_ ?_
    · obtain ⟨gn, _⟩ := gr_new (o := .lst []) er1.fh hL
      exact ⟨[], [], F1, total, gn, fL, upd_same, .nil, Nat.le_refl _, by rw [List.drop_zero]; exact zz, rfl⟩
    · rintro i H2 _ ⟨acc, xs, F2, rest, g2, _⟩
      exact hG F2 H2 g2.ff g2.fh
    · rintro i x H2 H3 hi ⟨acc, xs, F2, rest, g2, f2, hL2, r2, l2, c2, t2⟩ y
      obtain ⟨F3, d, g3, hd, r3⟩ := hY i F2 H2 x H3 hi g2.ff g2.fh y
      have hdr : ds.drop i = d :: ds.drop (i + 1) := by
        have h1 : i < ds.length := hi
        rw [List.getElem?_eq_getElem h1] at hd
        cases hd
        exact List.drop_eq_getElem_cons h1
      have nf : ∀ {Fa Ha Fb Hb : Hp}, Gr Fa Ha Fb Hb → Fa L = none → Ha L = some (.lst acc) → Fb L = none ∧ Hb L = some (.lst acc) := fun {Fa Ha Fb Hb} g f e => by
        refine ⟨?_, g.hh _ _ e⟩
        cases q : Fb L with
        | none => rfl
        | some o =>
          rcases g.new L o q with z | z
          · rw [f] at z; cases z
          · rw [e] at z; cases z
      obtain ⟨f3, hL3⟩ := nf g3 f2 hL2
      rw [hdr] at c2
      unfold dCompL at c2
      have er3 := ((er1.gr g2).gr g3).wiped (own.map (·.2))
      refine ⟨G, _, F3, d, er3, r3, ?_⟩
      cases zt : tgt.f d (kills (own.map (·.2)) env) with
      | none => rw [zt] at c2; cases c2
      | some e1 =>
        rw [zt] at c2
        intro σ3 er4 off
        refine ⟨?_, G, e1, F3, er4, ?_⟩
        · refine wipe_eq off.1 (fun j hj => ?_) |>.trans (wipe_eq (by rw [wipe_length]) fun j hj => ?_)
          · exact off.2 j fun z => hj (hsl j z)
          · exact wipe_get hj
        · simp only at c2
          cases zs : tst e1 with
          | err => rw [zs] at c2; cases c2
          | exc c fs => rw [zs] at c2; cases c2
          | ok k =>
            rw [zs] at c2
            intro F4 H4 g4
            obtain ⟨f4, hL4⟩ := nf g4 f3 hL3
            show ite _ _ _
            cases k with
            | false =>
              rw [if_neg Bool.false_ne_true]
              exact ⟨acc, xs, F4, rest, (g2.trans g3).trans g4, f4, hL4, r2.mono (g3.ff.trans g4.ff), by omega, c2, t2⟩
            | true =>
              rw [if_pos rfl]
              refine ⟨G, e1, F4, er4.gr g4, ?_⟩
              simp only at c2
              cases ze : de e1 with
              | err => rw [ze] at c2; cases c2
              | exc c fs => rw [ze] at c2; cases c2
              | ok y' =>
                rw [ze] at c2
                intro F5 H5 g5 v5 r5
                obtain ⟨f5, hL5⟩ := nf g5 f4 hL4
                simp only at c2
                cases zr : dCompL tgt.f tst de (kills (own.map (·.2)) env) (ds.drop (i + 1)) with
                | err => rw [zr] at c2; cases c2
                | exc c fs => rw [zr] at c2; cases c2
                | ok rest' =>
                  rw [zr] at c2
                  cases c2
                  have gg := ((g2.trans g3).trans g4).trans g5
                  refine ⟨acc, hL5, by rw [r2.length]; have : i < ds.length := hi
                                       omega, acc ++ [v5], xs ++ [y'], F5, rest', ⟨gg.ff, fun p o q => ?_, fun p o q => ?_, gg.new⟩, f5, upd_same, (r2.mono ((g3.ff.trans g4.ff).trans g5.ff)).append (.cons r5 .nil), by simp; omega, rfl, by rw [t2]; simp⟩
                  · rw [upd_ne (ne_of_none q f5)]; exact gg.fh p o q
                  · rw [upd_ne (ne_of_none q hL)]; exact gg.hh p o q
    · rintro H2 ⟨acc, xs, F2, rest, g2, f2, hL2, r2, l2, c2, t2⟩
      rw [List.drop_length] at c2
      unfold dCompL at c2
      cases c2
      rw [List.append_nil] at t2
      subst t2
      exact h1 F2 H2 g2 L (gr_none g1 hL) f2 ⟨acc, hL2, Nat.le_trans l2 hline, r2⟩
theorem n_comp0 {scope : Scope} {own : List (Str × Nat)} {it : Env → Res (List D)} {tgt : Tg} {tst : Env → Res Bool} {de : Env → Res D} (hc : X.calm = true) (hN : X.N.Nodup) (hi : PI X tg iter (tI Γ W it)) (ok : BlkOk X.N X.env.scope scope own) (hsl : ∀ j ∈ tgt.sl, j ∈ own.map (·.2))
    (hg : ∀ (s : Shared) (H : Hp) (C : Addr) (cl : List (Str × Addr)) (fp : List Addr), PG (X.blk s H scope (compEnvC scope cl C X.env) fp) tg (tG Γ tgt)) (ht : ∀ (s : Shared) (H : Hp) (C : Addr) (cl : List (Str × Addr)) (fp : List Addr), PTs (X.blk s H scope (compEnvC scope cl C X.env) fp) ifs (tT Γ W0 tst))
    (he : ∀ (s : Shared) (H : Hp) (C : Addr) (cl : List (Str × Addr)) (fp : List Addr), PE (X.blk s H scope (compEnvC scope cl C X.env) fp) elt (tE Γ W0 de)) (hs : ∀ x, foldedSetIterable iter X.env x = pure x := by intro _; rfl) :
    PE X (.ListComp elt [⟨tg, iter, ifs, 0⟩] scope pos) (tN Γ W (dComp it tgt tst de (own.map (·.2)))) := PE.w (pe_lc hc hN hi ok hg ht he hs) fun σ H Q h => comp_r hsl h
theorem n_comp {scope : Scope} {own : List (Str × Nat)} {it : Env → Res (List D)} {tgt : Tg} {tst : Env → Res Bool} {de : Env → Res D} (hc : X.calm = true) (hN : X.N.Nodup) (hi : PI X tg iter (tI Γ W it)) (ok : BlkOk X.N X.env.scope scope own) (hsl : ∀ j ∈ tgt.sl, j ∈ own.map (·.2))
    (hg : ∀ (s : Shared) (H : Hp) (C : Addr) (cl : List (Str × Addr)) (fp : List Addr), PG (X.blk s H scope (compEnvC scope cl C X.env) fp) tg (tG Γ tgt)) (ht : ∀ (s : Shared) (H : Hp) (C : Addr) (cl : List (Str × Addr)) (fp : List Addr), PTs (X.blk s H scope (compEnvC scope cl C X.env) fp) ifs (tT Γ W0 tst))
    (he : ∀ (s : Shared) (H : Hp) (C : Addr) (cl : List (Str × Addr)) (fp : List Addr), PE (X.blk s H scope (compEnvC scope cl C X.env) fp) elt (tE Γ W0 de)) (hs : ∀ x, foldedSetIterable iter X.env x = pure x := by intro _; rfl) {vs : List Nat} (hvs : own.map (·.2) = vs := by rfl) :
    PE X (.ListComp elt [⟨tg, iter, ifs, 0⟩] scope pos) (tN Γ W (dComp it tgt tst de vs)) := by subst hvs; exact n_comp0 hc hN hi ok hsl hg ht he hs
theorem s_ownComp0 {i : Nat} {y : Str} {py spos : Pos} {scope : Scope} {own : List (Str × Nat)} {it : Env → Res (List D)} {tgt : Tg} {tst : Env → Res Bool} {de : Env → Res D} (hc : X.calm = true) (hN : X.N.Nodup) (hy : X.N[i]? = some y) (hyl : X.env.scope.names.lookup y = some .local)
    (hsw : swapsWith (.ListComp elt [⟨tg, iter, ifs, 0⟩] scope pos) (some (.Name y py)) spos.line X.env = pure true) (hi : PI X tg iter (tI Γ W it)) (ok : BlkOk X.N X.env.scope scope own) (hsl : ∀ j ∈ tgt.sl, j ∈ own.map (·.2))
    (hg : ∀ (s : Shared) (H : Hp) (C : Addr) (cl : List (Str × Addr)) (fp : List Addr), PG (X.blk s H scope (compEnvC scope cl C X.env) fp) tg (tG Γ tgt)) (ht : ∀ (s : Shared) (H : Hp) (C : Addr) (cl : List (Str × Addr)) (fp : List Addr), PTs (X.blk s H scope (compEnvC scope cl C X.env) fp) ifs (tT Γ W0 tst))
    (he : ∀ (s : Shared) (H : Hp) (C : Addr) (cl : List (Str × Addr)) (fp : List Addr), PE (X.blk s H scope (compEnvC scope cl C X.env) fp) elt (tE Γ W0 de)) (hs : ∀ x, foldedSetIterable iter X.env x = pure x := by intro _; rfl) (hi0 : i ≠ 0 := by decide) :
    PS X (.Assign [.Name y py] (.ListComp elt [⟨tg, iter, ifs, 0⟩] scope pos) spos) (tS Γ W (dOwn i (dComp it tgt tst de (own.map (·.2))))) := PS.w (ps_setLc hc hN hy hyl hsw hi ok hg ht he hs) fun Dd σ H ⟨G, env, F, er, q⟩ =>
  comp_r (W := W) hsl ⟨G, env, F, er, xpost (f := fun d => Out.nx (env.set i (.own d))) _ er q fun d F' H' g e' q a ha fa t => q _ F' H' (Same.refl _) (e'.setOwn i (er.newAt g ha fa t) hi0)⟩
theorem s_ownComp {i : Nat} {y : Str} {py spos : Pos} {scope : Scope} {own : List (Str × Nat)} {it : Env → Res (List D)} {tgt : Tg} {tst : Env → Res Bool} {de : Env → Res D} (hc : X.calm = true) (hN : X.N.Nodup) (hy : X.N[i]? = some y) (hyl : X.env.scope.names.lookup y = some .local)
    (hsw : swapsWith (.ListComp elt [⟨tg, iter, ifs, 0⟩] scope pos) (some (.Name y py)) spos.line X.env = pure true) (hi : PI X tg iter (tI Γ W it)) (ok : BlkOk X.N X.env.scope scope own) (hsl : ∀ j ∈ tgt.sl, j ∈ own.map (·.2))
    (hg : ∀ (s : Shared) (H : Hp) (C : Addr) (cl : List (Str × Addr)) (fp : List Addr), PG (X.blk s H scope (compEnvC scope cl C X.env) fp) tg (tG Γ tgt)) (ht : ∀ (s : Shared) (H : Hp) (C : Addr) (cl : List (Str × Addr)) (fp : List Addr), PTs (X.blk s H scope (compEnvC scope cl C X.env) fp) ifs (tT Γ W0 tst))
    (he : ∀ (s : Shared) (H : Hp) (C : Addr) (cl : List (Str × Addr)) (fp : List Addr), PE (X.blk s H scope (compEnvC scope cl C X.env) fp) elt (tE Γ W0 de)) (hs : ∀ x, foldedSetIterable iter X.env x = pure x := by intro _; rfl) {vs : List Nat} (hvs : own.map (·.2) = vs := by rfl) (hi0 : i ≠ 0 := by decide) :
    PS X (.Assign [.Name y py] (.ListComp elt [⟨tg, iter, ifs, 0⟩] scope pos) spos) (tS Γ W (dOwn i (dComp it tgt tst de vs))) := by subst hvs; exact s_ownComp0 hc hN hy hyl hsw hi ok hsl hg ht he hs hi0
theorem flat_comp {it : Env → Res (List D)} {tgt : Tg} {tst : Env → Res Bool} {de : Env → Res D} {vs : List Nat} : ∀ env d, dComp it tgt tst de vs env = .ok d → flat d = true := fun env d h => by
  unfold dComp at h
  cases z : it env with
  | ok ds =>
    rw [z] at h; simp only [Res.bind_ok] at h
    cases z2 : dCompL tgt.f tst de (kills vs env) ds with
    | ok xs => rw [z2] at h; cases h; rfl
    | exc c fs => rw [z2] at h; cases h
    | err => rw [z2] at h; cases h
  | exc c fs => rw [z] at h; cases h
  | err => rw [z] at h; cases h
theorem n_of_e {den : Env → Res D} {σ : L2.St} {H : Hp} {Q : VK} (hf : ∀ env d, den env = .ok d → flat d = true) : tE Γ W den σ H Q → tN Γ W den σ H Q := fun ⟨G, env, F, er, q⟩ => by
  refine ⟨G, env, F, er, ?_⟩
  have hf := hf env
  cases z : den env with
  | err => rw [z] at q; exact q
  | exc c fs => rw [z] at q; exact q
  | ok d =>
    rw [z] at q
    intro F1 H1 g a ha fa t
    obtain ⟨F2, g2, r⟩ := fresh_gr g fa ha t fun c ds hd => by have := hf d z; rw [hd] at this; cases this
    exact q F2 H1 g2 _ r
theorem s_setComp0 {i : Nat} {y : Str} {py spos : Pos} {scope : Scope} {own : List (Str × Nat)} {it : Env → Res (List D)} {tgt : Tg} {tst : Env → Res Bool} {de : Env → Res D} (hc : X.calm = true) (hN : X.N.Nodup) (hy : X.N[i]? = some y) (hyl : X.env.scope.names.lookup y = some .local)
    (hsw : swapsWith (.ListComp elt [⟨tg, iter, ifs, 0⟩] scope pos) (some (.Name y py)) spos.line X.env = pure true) (hi : PI X tg iter (tI Γ W it)) (ok : BlkOk X.N X.env.scope scope own) (hsl : ∀ j ∈ tgt.sl, j ∈ own.map (·.2))
    (hg : ∀ (s : Shared) (H : Hp) (C : Addr) (cl : List (Str × Addr)) (fp : List Addr), PG (X.blk s H scope (compEnvC scope cl C X.env) fp) tg (tG Γ tgt)) (ht : ∀ (s : Shared) (H : Hp) (C : Addr) (cl : List (Str × Addr)) (fp : List Addr), PTs (X.blk s H scope (compEnvC scope cl C X.env) fp) ifs (tT Γ W0 tst))
    (he : ∀ (s : Shared) (H : Hp) (C : Addr) (cl : List (Str × Addr)) (fp : List Addr), PE (X.blk s H scope (compEnvC scope cl C X.env) fp) elt (tE Γ W0 de)) (hs : ∀ x, foldedSetIterable iter X.env x = pure x := by intro _; rfl) :
    PS X (.Assign [.Name y py] (.ListComp elt [⟨tg, iter, ifs, 0⟩] scope pos) spos) (tS Γ W (dSet i (dComp it tgt tst de (own.map (·.2))))) := PS.w (ps_setLc hc hN hy hyl hsw hi ok hg ht he hs) fun Dd σ H ⟨G, env, F, er, q⟩ =>
  comp_r (W := W) hsl (n_of_e flat_comp ⟨G, env, F, er, xpost (f := fun d => Out.nx (env.set i (.val d))) _ er q fun d F' H' g e' q v r => q _ F' H' (Same.refl _) (e'.set i r)⟩)
theorem s_setComp {i : Nat} {y : Str} {py spos : Pos} {scope : Scope} {own : List (Str × Nat)} {it : Env → Res (List D)} {tgt : Tg} {tst : Env → Res Bool} {de : Env → Res D} (hc : X.calm = true) (hN : X.N.Nodup) (hy : X.N[i]? = some y) (hyl : X.env.scope.names.lookup y = some .local)
    (hsw : swapsWith (.ListComp elt [⟨tg, iter, ifs, 0⟩] scope pos) (some (.Name y py)) spos.line X.env = pure true) (hi : PI X tg iter (tI Γ W it)) (ok : BlkOk X.N X.env.scope scope own) (hsl : ∀ j ∈ tgt.sl, j ∈ own.map (·.2))
    (hg : ∀ (s : Shared) (H : Hp) (C : Addr) (cl : List (Str × Addr)) (fp : List Addr), PG (X.blk s H scope (compEnvC scope cl C X.env) fp) tg (tG Γ tgt)) (ht : ∀ (s : Shared) (H : Hp) (C : Addr) (cl : List (Str × Addr)) (fp : List Addr), PTs (X.blk s H scope (compEnvC scope cl C X.env) fp) ifs (tT Γ W0 tst))
    (he : ∀ (s : Shared) (H : Hp) (C : Addr) (cl : List (Str × Addr)) (fp : List Addr), PE (X.blk s H scope (compEnvC scope cl C X.env) fp) elt (tE Γ W0 de)) (hs : ∀ x, foldedSetIterable iter X.env x = pure x := by intro _; rfl) {vs : List Nat} (hvs : own.map (·.2) = vs := by rfl) :
    PS X (.Assign [.Name y py] (.ListComp elt [⟨tg, iter, ifs, 0⟩] scope pos) spos) (tS Γ W (dSet i (dComp it tgt tst de vs))) := by subst hvs; exact s_setComp0 hc hN hy hyl hsw hi ok hsl hg ht he hs
end
end Dn

/-! Den9.lean -/
namespace Dn
open PySem PySem.Spec PyProof.Rows L2

/-! ### what a def promises -/
section
variable (Γ : Gm)
def rPost (F H : Hp) (r : Res D) (Q : VK) (E : XK) : Prop := match r with
  | .ok d => ∀ v F' H', Gr F H F' H' → Rep Γ F' d v → Q v H'
  | .exc c fs => ∀ F' H' d, Gr F H F' H' → XD Γ F' c fs d → E (.ref (Γ.cls c)) d H'
  | .err => False
def spD (n : Nat) (f : List D → Res D) : Sp := fun vs H Q E => ∃ ds F, ds.length = n ∧ Same F H ∧ Reps Γ F ds vs ∧ rPost Γ F H (f ds) Q E
end
/-- the names at the entry -/
def env0 (n N : Nat) (ds : List D) : Env := ds.map Slot.val ++ List.replicate (N - n) .un
def outR : Out → Res D
  | .nx _ => .ok .non
  | .ret d => .ok d
  | .exc _ c fs => .exc c fs
  | _ => .err
def dFn (n N : Nat) (body : Env → Out) : List D → Res D := fun ds => outR (body (env0 n N ds))
section
variable {P : Program} {w : World} {K : PySem.W.Frag} {mg : Str → Option Value} {base : Heap} {Γ : Gm}
theorem er_start {n N : Nat} {ds : List D} {vs : List V} {F H : Hp} (hl : ds.length = n) (s : Same F H) (r : Reps Γ F ds vs) : ER Γ ⟨H, F, none, fun _ => none⟩ (env0 n N ds) (vs.map some ++ List.replicate (N - vs.length) none) F H := by
  have hv : vs.length = n := r.length.trans hl
  have own : ∀ (i : Nat) d, (env0 n N ds)[i]? = some (.own d) → False := fun i d q => by
    unfold env0 at q
    rcases List.mem_append.mp (List.mem_of_getElem? q) with z | z
    · obtain ⟨a, _, e⟩ := List.mem_map.mp z; cases e
    · cases List.eq_of_mem_replicate z
  refine ⟨?_, s, Same.refl _, Same.refl _, fun p o q => .inl q, fun i sl q => ?_, fun i j a di dj q => (own i di q).elim, fun x d h => nomatch h⟩
  · simp [env0, hv, hl]
  · unfold env0 at q
    by_cases hi : i < n
    · rw [List.getElem?_append_left (by simp [hl, hi]), List.getElem?_map] at q
      cases z : ds[i]? with
      | none => rw [z] at q; cases q
      | some d =>
        rw [z] at q; cases q
        obtain ⟨v, hv', rv⟩ := r.get z
        exact ⟨some v, by rw [List.getElem?_append_left (by simp [hv, hi]), List.getElem?_map, hv']; rfl, v, rfl, rv⟩
    · have hlt : i < (ds.map Slot.val ++ List.replicate (N - n) Slot.un).length := (List.getElem?_eq_some_iff.mp q).1
      simp only [List.length_append, List.length_map, List.length_replicate, hl] at hlt
      rw [List.getElem?_append_right (by simp [hl]; omega), List.getElem?_replicate] at q
      split at q
      · cases q
        exact ⟨none, by rw [List.getElem?_append_right (by simp [hv]; omega), List.getElem?_replicate, if_pos (by simp [hv]; omega)], trivial⟩
      · cases q
theorem ER.out {n N : Nat} {env : Env} {σ : L2.St} {F H F' H' : Hp} (e : ER Γ ⟨H, F, none, fun _ => none⟩ env σ F' H') (s : Same F F') : Gr F H F' H' := ⟨s, e.fh, e.bh, e.fr⟩
theorem fn_ok {x qual : Str} {st : Stmt} {f : Addr} {fd : FuncData} {N ps : List Str} {k : Nat} {den : Env → Out} (F : Fun K x qual st f fd) (S : FnScope N ps (defScope st))
    (body : ∀ (cdv : Value) (A : Around) (outer : List PySem.Env) (s : Shared) (H : Hp) (E : XK), Room k (A.deeper (envOfC qual (defScope st) s.heap.objs.size f cdv)) →
      PSs (cxOf (L2.CX P w) P w K mg base N qual (defScope st) f cdv A outer s H E) (defBody st) (tS Γ (fun c d _ H => E c d H) den)) :
    FnOk P w K mg base (L2.CX P w) (k + 1) f fd ps (spD Γ ps.length (dFn ps.length N.length den)) := by
  refine F.okX S (fun vs H Q E ⟨ds, F0, hl, s, r, _⟩ => by rw [r.length, hl]) (fun cdv A outer s H vs Q E hr h => ⟨_, body cdv A outer s H E hr, ?_⟩)
  obtain ⟨ds, F0, hl, sm, r, q⟩ := h
  refine ⟨⟨H, F0, none, fun _ => none⟩, env0 ps.length N.length ds, F0, ?_, ?_⟩
  · have := er_start (Γ := Γ) (N := N.length) hl sm r
    exact this
  · unfold dFn at q
    cases z : den (env0 ps.length N.length ds) with
    | nx e => rw [z] at q; exact fun σ' F' H' s' er' => q .non F' H' (er'.out (n := 0) (N := 0) s') (by rw [Rep])
    | ret d => rw [z] at q; exact fun v e σ' F' H' s' er' r' => q v F' H' (er'.out (n := 0) (N := 0) s') r'
    | bk e => rw [z] at q; exact q.elim
    | ct e => rw [z] at q; exact q.elim
    | exc e c fs => rw [z] at q; exact fun σ' F' H' d s' er' x' => q F' H' d (er'.out (n := 0) (N := 0) s') x'
    | err => rw [z] at q; exact q.elim
/-- a def as callers take it: the missing arguments dfl are filled up -/
structure FnD (P : Program) (w : World) (K : PySem.W.Frag) (mg : Str → Option Value) (base : Heap) (Γ : Gm) (k : Nat) (f : Addr) (n : Nat) (dfl : List D) (g : List D → Res D) : Prop where
  ex : ∃ fd ps ds dvs, FnOk P w K mg base (L2.CX P w) k f fd ps (spD Γ n g) ∧ Binds K fd ps ds ∧ Vals dvs ds ∧ ∀ F, Reps Γ F dfl dvs
  kp : PySem.W.keepIn K (.ref f) = true
theorem FnD.mk0 {k n : Nat} {f : Addr} {fd : FuncData} {ps : List Str} {g : List D → Res D} (F : FnOk P w K mg base (L2.CX P w) k f fd ps (spD Γ n g)) (b : Binds K fd ps []) (kp : PySem.W.keepIn K (.ref f) = true) : FnD P w K mg base Γ k f n [] g :=
  ⟨⟨fd, ps, [], [], F, b, .nil, fun _ => .nil⟩, kp⟩
end
section
variable {X : Cx} {Γ : Gm} {W : WX} {k : Nat} {f : Addr} {n : Nat} {dfl : List D} {g : List D → Res D} {x : Str} {p pos : Pos} {e : Expr} {es : List Expr} {dl : Env → Res (List D)}
theorem run_fd (hF : FnD X.prog X.w X.K X.mg X.base Γ k f n dfl g) (hr : Room k X.A) (tk : Takes X W) {pins : List (Addr × Obj)} {σ : L2.St} {F H : Hp} {s : Shared} {Q : VK} {us : List Value} {vs : List V} {ds : List D}
    (I : Inv X pins σ H s) (r : Vals vs us) (hn : ds.length + dfl.length = n) (sm : Same F H) (rd : Reps Γ F ds vs) (h : post Γ W σ F H (g (ds ++ dfl)) (kE Γ Q)) : wpAny (model X.prog X.w) X.A (call (.ref f) us) (EP X pins σ Q) X.xe s := by
  obtain ⟨fd, ps, dus, dvs, F1, b, hv, hd⟩ := hF.ex
  have hsp : spD Γ n g (vs ++ dvs) H Q (WE W σ) := by
    refine ⟨ds ++ dfl, F, by rw [List.length_append]; exact hn, sm, rd.append (hd F), ?_⟩
    cases z : g (ds ++ dfl) with
    | ok d => rw [z] at h; exact fun v F' H' g r => h F' H' g v r
    | exc c fs => rw [z] at h; exact fun F' H' d g x => h F' H' d g x
    | err => rw [z] at h; exact h.elim
  have r2 : Vals (vs ++ dvs) (us ++ dus) := r.append hv
  have hl : (us ++ dus).length = ps.length := by rw [← r2.length]; exact F1.len _ _ _ _ hsp
  refine wpAny_call (codeAny_mono (F1.run X.A X.stack s H ⟨us, []⟩ (us ++ dus) (vs ++ dvs) Q (WE W σ) hr I.env0 (b s us I.kIn hl) r2 hsp) fun r s' hq => ?_)
  cases r with
  | error e => exact passAt tk σ pins H s e s' I hq
  | ok fl =>
    cases fl with
    | ret u => exact I.after hq
    | next => exact False.elim hq
    | brk => exact False.elim hq
    | cont => exact False.elim hq
def dCall (n : Nat) (dfl : List D) (g : List D → Res D) (dl : Env → Res (List D)) : Env → Res D := fun env => (dl env).bind fun ds => if ds.length + dfl.length = n then g (ds ++ dfl) else .err
theorem e_call (hF : FnD X.prog X.w X.K X.mg X.base Γ k f n dfl g) (hr : Room k X.A) (tk : Takes X W) (hg : Gl X x) (hm : X.mg x = some (.ref f))
    (ha : PA X (e :: es) (tA Γ W dl)) (hdb : (x == ("__debug__" : Str)) = false := by decide) (he : starEach (e :: es) X.env = (false, eval e X.env) :: starEach es X.env := by rfl) (hpl : (backTo pos (starEach es X.env)).any (·.1) = false := by rfl) :
    PE X (.Call (.Name x p) (e :: es) [] pos) (tE Γ W (dCall n dfl g dl)) := by
  refine ⟨fun pins s σ H Q I ⟨G, env, F, er, h⟩ => ?_⟩
  refine wpAny_Call_Name_kw (ld_glob I hg hm ?_ hdb)
  have hh := ha.run pos pins s σ H (fun vs H1 => ∃ F1 ds, ER Γ G env σ F1 H1 ∧ Reps Γ F1 ds vs ∧ post Γ W σ F1 H1 (if ds.length + dfl.length = n then g (ds ++ dfl) else .err) (kE Γ Q)) I ⟨G, env, F, er, h.bind.imp fun ds F1 H1 _ g1 h1 vs r => ⟨F1, ds, er.gr g1, r, h1⟩⟩
  refine PySem.W.callWith_K (h₀ := X.base) I.ok.mod.kin hF.kp (thn hh fun us s1 ⟨vs, H1, I1, r, F1, ds, er1, rd, q⟩ => ⟨I1.kIn, ?_⟩) he hpl
  split at q
  · rename_i hn
    exact run_fd hF hr tk I1 r hn er1.fh rd q
  · exact q.elim
theorem e_call0 (hF : FnD X.prog X.w X.K X.mg X.base Γ k f n dfl g) (hr : Room k X.A) (tk : Takes X W) (hg : Gl X x) (hm : X.mg x = some (.ref f)) (hdb : (x == ("__debug__" : Str)) = false := by decide) :
    PE X (.Call (.Name x p) [] [] pos) (tE Γ W (dCall n dfl g dNil)) := by
  refine ⟨fun pins s σ H Q I ⟨G, env, F, er, h⟩ => ?_⟩
  refine wpAny_Call_Name_kw (ld_glob I hg hm ?_ hdb)
  refine PySem.W.callWith_K0 I.kIn hF.kp ?_
  unfold dCall dNil at h
  simp only [Res.bind_ok] at h
  split at h
  · rename_i hn
    exact run_fd (vs := []) (ds := []) (us := []) hF hr tk I .nil hn er.fh .nil h
  · exact h.elim

/-! ### built-ins by values -/
/-- a call by values gives a thing | a new object -/
def CaS (Γ : Gm) (r : List V → Hp → VK → Prop) (f : List D → Option D) : Prop := ∀ {F H : Hp} {ds : List D} {vs : List V} {Q : VK} {d : D}, Same F H → Paired (fun d v => RepT Γ F H d v) ds vs → f ds = some d →
  (∀ u F' H', Gr F H F' H' → Rep Γ F' d u → Q u H') → r vs H Q
def CaN (Γ : Gm) (r : List V → Hp → VK → Prop) (f : List D → Option D) : Prop := ∀ {F H : Hp} {ds : List D} {vs : List V} {Q : VK} {d : D}, Same F H → Paired (fun d v => RepT Γ F H d v) ds vs → f ds = some d →
  (∀ p F' H', Gr F H F' H' → F' p = none → H p = none → Top Γ F' H' p d → Q (.ref p) H') → r vs H Q
/-- arguments that are looked at alone -/
def tAW (Γ : Gm) (W : WX) (den : Env → Res (List D)) : TA := fun σ H Q => ∃ G env F, ER Γ G env σ F H ∧ post Γ W σ F H (den env) fun ds F' H' => ∀ vs, Paired (fun d v => RepT Γ F' H' d v) ds vs → Q vs H'
theorem Paired.mono' {α β : Type} {R R' : α → β → Prop} (h : ∀ a b, R a b → R' a b) : ∀ {xs : List α} {ys : List β}, Paired R xs ys → Paired R' xs ys
  | _, _, .nil => .nil
  | _, _, .cons r t => .cons (h _ _ r) (Paired.mono' h t)
theorem aw_nil : PA X [] (tAW Γ W dNil) := PA.w pa_nil fun σ H Q ⟨G, env, F, er, h⟩ => post.ok (W := W) er h [] .nil
theorem aw_cons {da : Env → Res D} {dr : Env → Res (List D)} (ha : PE X e (tW Γ W da)) (hr : PA X es (tAW Γ W dr)) (hs : starEach (e :: es) X.env = (false, eval e X.env) :: starEach es X.env := by rfl) :
    PA X (e :: es) (tAW Γ W (dCons da dr)) := PA.w (pa_cons ha hr hs) fun σ H Q ⟨G, env, F, er, h⟩ => by
  refine ⟨G, env, F, er, h.bind.imp fun d F1 H1 _ g1 h1 v r1 => ⟨G, env, F1, er.gr g1, h1.bind.imp fun ds F2 H2 _ g2 h2 vs r2 => ?_⟩⟩
  exact h2.ok ((er.gr g1).gr g2) _ (.cons (r1.gr g2) r2)
def dBi (f : List D → Option D) (dl : Env → Res (List D)) : Env → Res D := fun env => (dl env).bind fun ds => op? (f ds)
theorem bi_s {r : List V → Hp → VK → Prop} {f : List D → Option D} {σ : L2.St} {H : Hp} {Q : VK} (hr : CaS Γ r f) (h : tE Γ W (dBi f dl) σ H Q) : tAW Γ W dl σ H fun vs H1 => r vs H1 Q := by
  obtain ⟨G, env, F, er, h⟩ := h
  refine ⟨G, env, F, er, h.bind.imp fun ds F1 H1 _ g1 h1 vs rv => ?_⟩
  cases z : f ds with
  | none => rw [z] at h1; exact h1.elim
  | some d => rw [z] at h1; exact hr (er.gr g1).fh rv z fun u F' H' g r => h1 F' H' g u r
theorem bi_n {r : List V → Hp → VK → Prop} {f : List D → Option D} {σ : L2.St} {H : Hp} {Q : VK} (hr : CaN Γ r f) (h : tN Γ W (dBi f dl) σ H Q) : tAW Γ W dl σ H fun vs H1 => r vs H1 Q := by
  obtain ⟨G, env, F, er, h⟩ := h
  refine ⟨G, env, F, er, h.bind.imp fun ds F1 H1 _ g1 h1 vs rv => ?_⟩
  cases z : f ds with
  | none => rw [z] at h1; exact h1.elim
  | some d => rw [z] at h1; exact hr (er.gr g1).fh rv z fun p F' H' g fp hp t => h1 F' H' g p (gr_none g1 hp) fp t
variable {id T : String} {r : List V → Hp → VK → Prop} {fb : List D → Option D}
theorem e_bi (hc : CallR X (.builtin id) r) (hs : CaS Γ r fb) (hg : Gl X x) (hm : X.mg x = none) (hv : bootBuiltins x = some (.builtin id)) (ha : PA X (e :: es) (tAW Γ W dl)) (hn : x ≠ "__name__" := by decide) (hdb : (x == ("__debug__" : Str)) = false := by decide)
    (he : starEach (e :: es) X.env = (false, eval e X.env) :: starEach es X.env := by rfl) (hpl : (backTo pos (starEach es X.env)).any (·.1) = false := by rfl) : PE X (.Call (.Name x p) (e :: es) [] pos) (tE Γ W (dBi fb dl)) :=
  PE.w (pe_callB hc hg hm hv ha hn hdb he hpl) fun σ H Q h => bi_s hs h
theorem e_bty (hc : CallR X (.type T) r) (hs : CaS Γ r fb) (hg : Gl X x) (hm : X.mg x = none) (hv : bootBuiltins x = some (.type T)) (ha : PA X (e :: es) (tAW Γ W dl)) (hn : x ≠ "__name__" := by decide) (hdb : (x == ("__debug__" : Str)) = false := by decide)
    (he : starEach (e :: es) X.env = (false, eval e X.env) :: starEach es X.env := by rfl) (hpl : (backTo pos (starEach es X.env)).any (·.1) = false := by rfl) : PE X (.Call (.Name x p) (e :: es) [] pos) (tE Γ W (dBi fb dl)) :=
  PE.w (pe_callTy hc hg hm hv ha hn hdb he hpl) fun σ H Q h => bi_s hs h
theorem n_bty (hc : CallR X (.type T) r) (hs : CaN Γ r fb) (hg : Gl X x) (hm : X.mg x = none) (hv : bootBuiltins x = some (.type T)) (ha : PA X (e :: es) (tAW Γ W dl)) (hn : x ≠ "__name__" := by decide) (hdb : (x == ("__debug__" : Str)) = false := by decide)
    (he : starEach (e :: es) X.env = (false, eval e X.env) :: starEach es X.env := by rfl) (hpl : (backTo pos (starEach es X.env)).any (·.1) = false := by rfl) : PE X (.Call (.Name x p) (e :: es) [] pos) (tN Γ W (dBi fb dl)) :=
  PE.w (pe_callTy hc hg hm hv ha hn hdb he hpl) fun σ H Q h => bi_n hs h
/-- len -/
def bLen : List D → Option D
  | [.lst ds] => some (.int ds.length)
  | [.tup ds] => some (.int ds.length)
  | [.scr ns] => some (.int ns.length)
  | [.str z] => some (.int z.length)
  | _ => none
theorem one_pair {F H : Hp} {d : D} {vs : List V} (h : Paired (fun d v => RepT Γ F H d v) [d] vs) : ∃ v, vs = [v] ∧ RepT Γ F H d v := by
  cases h with | cons r t => cases t; exact ⟨_, rfl, r⟩
theorem two_pair {F H : Hp} {d d' : D} {vs : List V} (h : Paired (fun d v => RepT Γ F H d v) [d, d'] vs) : ∃ v v', vs = [v, v'] ∧ RepT Γ F H d v ∧ RepT Γ F H d' v' := by
  cases h with | cons r t => cases t with | cons r' t => cases t; exact ⟨_, _, rfl, r, r'⟩
theorem cas_len : CaS Γ (fun xs H Q => ∃ x n, xs = [x] ∧ LenV Γ.K x H n ∧ Q (.int n) H) bLen := fun {F H ds vs Q d} s rv e k => by
  unfold bLen at e
  split at e
  · rename_i ds; cases e
    obtain ⟨v, rfl, r⟩ := one_pair rv
    obtain ⟨a, ws, rfl, q, l, rr⟩ := r.lst s
    exact ⟨_, ds.length, rfl, .inl ⟨ws, SqL.of q, rr.length.symm⟩, k _ F H (Gr.refl s) rep_int⟩
  · rename_i ds; cases e
    obtain ⟨v, rfl, r⟩ := one_pair rv
    obtain ⟨a, ws, rfl, q, l, rr⟩ := r.tup s
    exact ⟨_, ds.length, rfl, .inr ⟨ws, q, rr.length.symm⟩, k _ F H (Gr.refl s) rep_int⟩
  · rename_i ns; cases e
    obtain ⟨v, rfl, r⟩ := one_pair rv
    obtain ⟨a, rfl, l, q⟩ := r.scr s
    exact ⟨_, ns.length, rfl, .inl ⟨_, q, by simp⟩, k _ F H (Gr.refl s) rep_int⟩
  · rename_i z; cases e
    obtain ⟨v, rfl, r⟩ := one_pair rv
    obtain ⟨rfl, o⟩ := r.str
    exact ⟨_, z.length, rfl, ⟨sOk_len o, rfl⟩, k _ F H (Gr.refl s) rep_int⟩
  · cases e
theorem e_len (hk : Γ.K = X.K) (hg : Gl X "len") (hm : X.mg "len" = none) (ha : PA X (e :: es) (tAW Γ W dl)) (he : starEach (e :: es) X.env = (false, eval e X.env) :: starEach es X.env := by rfl) (hpl : (backTo pos (starEach es X.env)).any (·.1) = false := by rfl) :
    PE X (.Call (.Name "len" p) (e :: es) [] pos) (tE Γ W (dBi bLen dl)) := e_bi (r := fun xs H Q => ∃ x n, xs = [x] ∧ LenV Γ.K x H n ∧ Q (.int n) H) (by rw [hk]; exact call_len) cas_len hg hm PySem.boot_len ha (by decide) (by decide) he hpl
/-- all, any -/
def bools : List D → Option (List Bool)
  | [] => some []
  | .bl b :: ds => (bools ds).map fun bs => b :: bs
  | _ => none
def bAll : List D → Option D
  | [.lst ds] => (bools ds).map fun bs => .bl (bs.all _root_.id)
  | _ => none
def bAny : List D → Option D
  | [.lst ds] => (bools ds).map fun bs => .bl (bs.any _root_.id)
  | _ => none
theorem reps_bools {F : Hp} : ∀ {ds : List D} {vs : List V} {bs : List Bool}, Reps Γ F ds vs → bools ds = some bs → vs = bs.map V.bl
  | [], vs, bs, r, e => by simp only [bools] at e; cases e; exact r.nil_inv
  | d :: ds, vs, bs, r, e => by
    obtain ⟨v, vr, rfl, r1, r2⟩ := r.cons_inv
    cases d <;> try (simp [bools] at e; done)
    rename_i b
    simp only [bools, Option.map_eq_some_iff] at e
    obtain ⟨bs', e, rfl⟩ := e
    rw [Rep] at r1
    rw [r1, reps_bools r2 e]; rfl
theorem cas_all : CaS Γ (rAll Γ.K) bAll := fun {F H ds vs Q d} s rv e k => by
  unfold bAll at e
  split at e
  · rename_i ds
    simp only [Option.map_eq_some_iff] at e
    obtain ⟨bs, e, rfl⟩ := e
    obtain ⟨v, rfl, r⟩ := one_pair rv
    obtain ⟨a, ws, rfl, q, l, rr⟩ := r.lst s
    exact ⟨a, bs, rfl, by rw [← reps_bools rr e]; exact SqL.of q, k _ F H (Gr.refl s) rep_bl⟩
  · cases e
theorem cas_any : CaS Γ (rAny Γ.K) bAny := fun {F H ds vs Q d} s rv e k => by
  unfold bAny at e
  split at e
  · rename_i ds
    simp only [Option.map_eq_some_iff] at e
    obtain ⟨bs, e, rfl⟩ := e
    obtain ⟨v, rfl, r⟩ := one_pair rv
    obtain ⟨a, ws, rfl, q, l, rr⟩ := r.lst s
    exact ⟨a, bs, rfl, by rw [← reps_bools rr e]; exact SqL.of q, k _ F H (Gr.refl s) rep_bl⟩
  · cases e
theorem e_all (hk : Γ.K = X.K) (hc : X.calm = true) (hg : Gl X "all") (hm : X.mg "all" = none) (ha : PA X (e :: es) (tAW Γ W dl)) (he : starEach (e :: es) X.env = (false, eval e X.env) :: starEach es X.env := by rfl) (hpl : (backTo pos (starEach es X.env)).any (·.1) = false := by rfl) :
    PE X (.Call (.Name "all" p) (e :: es) [] pos) (tE Γ W (dBi bAll dl)) := e_bi (r := rAll Γ.K) (by rw [hk]; exact cr_all hc) cas_all hg hm (by decide +kernel) ha (by decide) (by decide) he hpl
theorem e_any (hk : Γ.K = X.K) (hc : X.calm = true) (hg : Gl X "any") (hm : X.mg "any" = none) (ha : PA X (e :: es) (tAW Γ W dl)) (he : starEach (e :: es) X.env = (false, eval e X.env) :: starEach es X.env := by rfl) (hpl : (backTo pos (starEach es X.env)).any (·.1) = false := by rfl) :
    PE X (.Call (.Name "any" p) (e :: es) [] pos) (tE Γ W (dBi bAny dl)) := e_bi (r := rAny Γ.K) (by rw [hk]; exact cr_any hc) cas_any hg hm (by decide +kernel) ha (by decide) (by decide) he hpl
/-- isinstance of things that are no instances of own classes, by built-in classes -/
def tyN : D → Option String
  | .non => some "NoneType" | .bl _ => some "bool" | .int _ => some "int" | .str _ => some "str" | .lst _ => some "list" | .scr _ => some "list" | .tup _ => some "tuple" | .dic _ _ => some "dict"
  | _ => none
def tyKnown : List String := ["NoneType", "bool", "int", "str", "list", "tuple", "dict"]
def subB (a b : String) : Bool := a == b || (a == "bool" && b == "int")
theorem kit_known : ∀ a ∈ tyKnown, ∀ b ∈ tyKnown, kitB a b = some (subB a b) := by decide +kernel
theorem tyN_known {d : D} {a : String} (h : tyN d = some a) : a ∈ tyKnown := by
  cases d <;> simp only [tyN] at h <;> cases h <;> decide
theorem tyX_of {F H : Hp} {d : D} {v : V} {a : String} (s : Same F H) (r : RepT Γ F H d v) (h : tyN d = some a) : TyX Γ.K H v (.type a) := by
  cases d <;> simp only [tyN] at h <;> cases h
  · rw [r.non]; exact .base .non
  · rw [r.bl]; exact .base (.bl _)
  · rw [r.int]; exact .base (.int _)
  · rw [r.str.1]; exact .base (.str _)
  · rcases r with r | ⟨_, _, t⟩
    · rw [Rep] at r
      obtain ⟨a, rfl, l, q, z⟩ := r
      rcases z with ⟨xs, z⟩ | ⟨o, xs, z⟩ | ⟨o, z, c⟩
      · exact .base (.lst (s _ _ z))
      · exact .base (.frz (s _ _ z))
      · exact .kList z c
    · exact t.elim
  · obtain ⟨a, ws, rfl, q, l, rr⟩ := r.lst s
    exact .base (.lst q)
  · obtain ⟨a, ws, rfl, q, l, rr⟩ := r.tup s
    rcases q with (q | ⟨o, q⟩) | ⟨o, its, n, q, c, _⟩
    · exact .base (.tup q)
    · exact .fTuple q
    · exact .kTuple q c
  · rcases r with r | ⟨a, rfl, kvs, q, _⟩
    · rw [Rep] at r
      obtain ⟨a, kvs, rfl, q, _⟩ := r
      exact .base (.dK (s _ _ q))
    · exact .base (.dK q)
def bIsB (b : String) (d : D) : Option D := if b ∈ tyKnown then (tyN d).map fun a => .bl (subB a b) else none
theorem e_isB {b : String} {y : Str} {p2 : Pos} {da : Env → Res D} (hk : Γ.K = X.K) (hg : Gl X "isinstance") (hm : X.mg "isinstance" = none) (ha : PE X e (tW Γ W da)) (hg2 : Gl X y) (hm2 : X.mg y = none) (hv : bootBuiltins y = some (.type b)) (hn : y ≠ "__name__" := by decide) (hdb : (y == ("__debug__" : Str)) = false := by decide)
    (hs : starEach [e, .Name y p2] X.env = (false, eval e X.env) :: starEach [.Name y p2] X.env := by rfl) (hpl : (backTo pos (starEach [.Name y p2] X.env)).any (·.1) = false := by rfl) (hs2 : starEach [.Name y p2] X.env = (false, eval (.Name y p2) X.env) :: starEach [] X.env := by rfl) :
    PE X (.Call (.Name "isinstance" p) [e, .Name y p2] [] pos) (tE Γ W (dUn (bIsB b) da)) :=
  PE.w (pe_callB call_isi hg hm (by decide +kernel) (pa_cons ha (pa_cons (pe_bltn (v := .ty b) hg2 hm2 hv rfl hn hdb) pa_nil hs2) hs) (by decide) (by decide) hs hpl) fun σ H Q ⟨G, env, F, er, h⟩ => by
  refine ⟨G, env, F, er, h.bind.imp fun d F1 H1 _ g1 h1 v r => ?_⟩
  have er1 := er.gr g1
  unfold bIsB at h1
  split at h1
  · rename_i hb
    cases z : tyN d with
    | none => rw [z] at h1; exact h1.elim
    | some a =>
      rw [z] at h1
      exact ⟨v, .ty b, .type a, .type b, subB a b, rfl, .ty b, by rw [← hk]; exact tyX_of er1.fh r z, kit_ty (kit_known a (tyN_known z) b hb), h1.ok er1 _ rep_bl⟩
  · exact h1.elim

/-! ### methods of texts -/
def mUpper : D → Option D
  | .str z => if z.length ≤ 5592405 ∧ sOk (Txt.upper z) = true then some (.str (Txt.upper z)) else none
  | _ => none
theorem e_upper {apos cpos : Pos} {da : Env → Res D} (ha : PE X e (tE Γ W da)) (hbase : attributeBase e "upper" X.env (eval e X.env) = eval e X.env := by rfl) (hline : (apos.endLine == cpos.line) = true := by rfl) : PE X (.Call (.Attribute e "upper" apos) [] [] cpos) (tE Γ W (dUn mUpper da)) :=
  PE.w (pe_upper ha hbase hline) fun σ H Q ⟨G, env, F, er, h⟩ => by
  refine ⟨G, env, F, er, h.bind.imp fun d F1 H1 _ g1 h1 v r => ?_⟩
  cases d <;> try exact h1.elim
  rw [Rep] at r
  obtain ⟨rfl, o⟩ := r
  unfold mUpper at h1
  simp only at h1
  split at h1
  · rename_i hl
    exact ⟨⟨_, rfl⟩, _, rfl, rfl, hl.1, h1.ok (er.gr g1) _ (by rw [Rep]; exact ⟨rfl, hl.2⟩)⟩
  · exact h1.elim
end

end Dn

/-! Den10.lean -/
namespace Dn
open PySem PySem.Spec PyProof.Rows L2

/-! ### a name's own list is changed -/
section
variable {X : Cx} {Γ : Gm} {W : WX} {x : Str} {p pos apos cpos : Pos} {e : Expr} {es : List Expr} {da : Env → Res D} {dl : Env → Res (List D)} {i : Nat}
theorem own_at {G : Gd} {env : Env} {σ : L2.St} {F H : Hp} {d : D} (er : ER Γ G env σ F H) (h : env[i]? = some (.own d)) : ∃ a, σ[i]? = some (some (.ref a)) ∧ F a = none ∧ Top Γ F H a d := by
  obtain ⟨y, hy, a, e1, f, b, t⟩ := er.sl i _ h
  subst e1
  exact ⟨a, hy, f, t⟩
/-- a statement o.m(..) on the own list of slot i -/
def dMut (i : Nat) (f : List D → List D → Option (List D)) (dl : Env → Res (List D)) : Env → Out := fun env => match env[i]? with
  | some (.own (.lst ds)) => match dl env with
    | .ok as => match f ds as with
      | some ds' => .nx (env.set i (.own (.lst ds')))
      | none => .err
    | .exc c fs => .exc env c fs
    | .err => .err
  | _ => .err
def MuS (Γ : Gm) (r : V → List V → Hp → VK → Prop) (f : List D → List D → Option (List D)) : Prop := ∀ {F H : Hp} {a : Addr} {ds as ds' : List D} {vs ws : List V} {Q : VK}, Same F H → F a = none → H a = some (.lst vs) → Reps Γ F ds vs → ds.length ≤ sizeLine →
  Reps Γ F as ws → f ds as = some ds' → (∀ v vs', ds'.length ≤ sizeLine → Reps Γ F ds' vs' → Q v (upd H a (.lst vs'))) → r (.ref a) ws H Q
theorem s_mut {r : V → List V → Hp → VK → Prop} {f : List D → List D → Option (List D)} {st : Stmt} (hst : ∀ t, PA X es t → PS X st (tDrop (tBM X.K "list" r (tVar i) t))) (hr : MuS Γ r f) (ha : PA X es (tA Γ W dl)) : PS X st (tS Γ W (dMut i f dl)) :=
  PS.w (hst _ ha) fun Dd σ H ⟨G, env, F, er, q⟩ => by
  unfold dMut at q
  split at q
  · rename_i ds hown
    obtain ⟨a, hσ, fa, vs, hv, hl, rr⟩ := own_at er hown
    refine ⟨.ref a, hσ, .inl ⟨rfl, vs, SqL.of hv⟩, G, env, F, er, ?_⟩
    cases z : dl env with
    | err => rw [z] at q; exact q.elim
    | exc c fs => rw [z] at q; exact fun F' H' d g x => q σ F' H' d g.ff (er.gr g) x
    | ok as =>
      rw [z] at q
      intro F1 H1 g1 ws ra
      simp only at q
      have er1 := er.gr g1
      obtain ⟨a', hσ', fa', vs', hv', hl', rr'⟩ := own_at er1 hown
      rw [hσ] at hσ'; cases hσ'
      cases z2 : f ds as with
      | none => rw [z2] at q; exact q.elim
      | some ds' =>
        rw [z2] at q
        refine hr er1.fh fa' hv' rr' hl' ra z2 fun v vs2 l2 r2 => ?_
        exact q σ F1 _ g1.ff (er1.write hown hσ ⟨vs2, upd_same, l2, r2⟩)
  · exact q.elim
theorem s_mut0 {r : V → List V → Hp → VK → Prop} {f : List D → List D → Option (List D)} {st : Stmt} (hst : PS X st (tDrop (tBM0 X.K "list" r (tVar i)))) (hr : MuS Γ r f) : PS X st (tS Γ W (dMut i f dNil)) :=
  PS.w hst fun Dd σ H ⟨G, env, F, er, q⟩ => by
  unfold dMut dNil at q
  split at q
  · rename_i ds hown
    obtain ⟨a, hσ, fa, vs, hv, hl, rr⟩ := own_at er hown
    refine ⟨.ref a, hσ, .inl ⟨rfl, vs, SqL.of hv⟩, ?_⟩
    simp only at q
    cases z2 : f ds [] with
    | none => rw [z2] at q; exact q.elim
    | some ds' =>
      rw [z2] at q
      exact hr er.fh fa hv rr hl .nil z2 fun v vs2 l2 r2 => q σ F _ (Same.refl _) (er.write hown hσ ⟨vs2, upd_same, l2, r2⟩)
  · exact q.elim
def fAppend : List D → List D → Option (List D) := fun ds as => match as with
  | [d] => if ds.length < sizeLine then some (ds ++ [d]) else none
  | _ => none
theorem mu_append : MuS Γ rAppend fAppend := fun {F H a ds as ds' vs ws Q} s fa hv rr hl ra e k => by
  unfold fAppend at e
  split at e
  · rename_i d
    split at e
    · rename_i hlt; cases e
      obtain ⟨v, r', rfl, r1, r2⟩ := ra.cons_inv
      rw [r2.nil_inv]
      exact ⟨a, vs, v, rfl, rfl, hv, by rw [rr.length]; exact hlt, k _ _ (by simp; omega) (rr.append (.cons r1 .nil))⟩
    · cases e
  · cases e
def fExtend : List D → List D → Option (List D) := fun ds as => match as with
  | [.lst es] => if ds.length + es.length ≤ sizeLine then some (ds ++ es) else none
  | _ => none
theorem mu_extend : MuS Γ rExtend fExtend := fun {F H a ds as ds' vs ws Q} s fa hv rr hl ra e k => by
  unfold fExtend at e
  split at e
  · rename_i es
    split at e
    · rename_i hlt; cases e
      obtain ⟨v, r', rfl, r1, r2⟩ := ra.cons_inv
      rw [r2.nil_inv]
      rw [Rep] at r1
      obtain ⟨b, us, rfl, q, l, re⟩ := r1
      exact ⟨a, b, vs, us, rfl, rfl, hv, s _ _ q, by rw [rr.length, re.length]; exact hlt, k _ _ (by simp; exact hlt) (rr.append re)⟩
    · cases e
  · cases e
def fPop : List D → List D → Option (List D) := fun ds as => match as with
  | [] => if ds = [] then none else some ds.dropLast
  | _ => none
theorem mu_pop : MuS Γ rPop fPop := fun {F H a ds as ds' vs ws Q} s fa hv rr hl ra e k => by
  unfold fPop at e
  split at e
  · rw [ra.nil_inv]
    split at e
    · cases e
    · rename_i hne; cases e
      have hv0 : vs.length - 1 < vs.length := by
        have := rr.length
        have : ds.length ≠ 0 := fun z => hne (List.length_eq_zero_iff.mp z)
        omega
      exact ⟨a, vs, vs[vs.length - 1], rfl, rfl, hv, by simp [hv0], k _ _ (by simp; omega) rr.dropLast⟩
  · cases e
def fClear : List D → List D → Option (List D) := fun _ as => match as with | [] => some [] | _ => none
theorem mu_clear : MuS Γ rClear fClear := fun {F H a ds as ds' vs ws Q} s fa hv rr hl ra e k => by
  unfold fClear at e
  split at e
  · cases e; rw [ra.nil_inv]
    exact ⟨a, vs, rfl, rfl, hv, k .non [] (Nat.zero_le _) .nil⟩
  · cases e
def fReverse : List D → List D → Option (List D) := fun ds as => match as with | [] => some ds.reverse | _ => none
theorem mu_reverse : MuS Γ rReverse fReverse := fun {F H a ds as ds' vs ws Q} s fa hv rr hl ra e k => by
  unfold fReverse at e
  split at e
  · cases e; rw [ra.nil_inv]
    exact ⟨a, vs, rfl, rfl, hv, k _ _ (by simp; exact hl) rr.reverse⟩
  · cases e
def dAppend (i : Nat) (da : Env → Res D) : Env → Out := dMut i fAppend (dCons da dNil)
def dExtend (i : Nat) (da : Env → Res D) : Env → Out := dMut i fExtend (dCons da dNil)
/-- target = value -/
def dAsg (t : Tg) (den : Env → Res D) : Env → Out := fun env => match den env with
  | .ok d => match t.f d env with
    | some e => .nx e
    | none => .err
  | .exc c fs => .exc env c fs
  | .err => .err
theorem s_asg {st : Stmt} {den : Env → Res D} {t : Tg} (h : ∀ te, PE X e te → PS X st (tAsg te (tG Γ t))) (he : PE X e (tE Γ W den)) : PS X st (tS Γ W (dAsg t den)) := PS.w (h _ he) fun Dd σ H ⟨G, env, F, er, q⟩ => by
  refine ⟨G, env, F, er, xpost (f := fun d => match t.f d env with | some e => .nx e | none => .err) _ er q fun d F' H' g e' q v r => ?_⟩
  refine ⟨G, env, F', d, e', r, ?_⟩
  cases z : t.f d env with
  | none => rw [z] at q; exact q.elim
  | some e2 => rw [z] at q; exact fun σ' er' _ => q σ' F' H' (Same.refl _) er'
/-- a, b = x, y -/
def dPar (i j : Nat) (dl : Env → Res (List D)) : Env → Out := fun env => match dl env with
  | .ok ds => match ds with
    | [a, b] => .nx ((env.set i (.val a)).set j (.val b))
    | _ => .err
  | .exc c fs => .exc env c fs
  | .err => .err
theorem s_par {st : Stmt} {j : Nat} (h : ∀ ta, PA X es ta → PS X st (tPar i j ta)) (ha : PA X es (tA Γ W dl)) : PS X st (tS Γ W (dPar i j dl)) := PS.w (h _ ha) fun Dd σ H ⟨G, env, F, er, q⟩ => by
  refine ⟨G, env, F, er, ?_⟩
  unfold dPar at q
  cases z : dl env with
  | err => rw [z] at q; exact q.elim
  | exc c fs => rw [z] at q; exact fun F' H' d g x => q σ F' H' d g.ff (er.gr g) x
  | ok ds =>
    rw [z] at q
    intro F' H' g vs r
    simp only at q
    split at q
    · obtain ⟨v, r', rfl, r1, r2⟩ := r.cons_inv
      obtain ⟨w, r'', rfl, r3, r4⟩ := r2.cons_inv
      rw [r4.nil_inv]
      exact ⟨v, w, rfl, q _ F' H' g.ff (((er.gr g).set i r1).set j r3)⟩
    · exact q.elim
/-- a module's text or number -/
theorem e_gstr {z : Str} {t : Tok} (hg : Gl X x) (hm : X.mg x = some (.str z t)) (h : sOk z = true := by decide +kernel) (hd : (x == ("__debug__" : Str)) = false := by decide) : PE X (.Name x p) (tE Γ W (dC (.str z))) := e_c (pe_glob (v := .str z) hg hm ⟨_, rfl⟩ hd) fun F => by rw [Rep]; exact ⟨rfl, h⟩
theorem e_gint {z : Int} {t : Tok} (hg : Gl X x) (hm : X.mg x = some (.int z t)) (hd : (x == ("__debug__" : Str)) = false := by decide) : PE X (.Name x p) (tE Γ W (dC (.int z))) := e_c (pe_glob (v := .int z) hg hm ⟨_, rfl⟩ hd) fun F => by rw [Rep]
/-- x in y -/
def D.sub1 : D → D → Option Bool
  | .str c, .str z => match c.cps.toList with
    | [k] => some (decide (k ∈ z.cps.toList))
    | _ => none
  | _, _ => none
def dInD (d : D) (y : D) : Option Bool := d.py.bind fun p => y.py.bind fun q => match q with
  | .list ps => if min (PyData.depthAll ps) p.depth ≤ 60 then some (ps.any fun z => PyData.eqv z p) else none
  | _ => none
def flatD : D → Bool
  | .non => true
  | .bl _ => true
  | .int _ => true
  | .str _ => true
  | _ => false
/-- == of flat things -/
def eqF : D → D → Bool
  | .non, .non => true
  | .bl a, .bl b => a == b
  | .bl a, .int b => (if a then 1 else 0) == b
  | .int a, .bl b => a == (if b then 1 else 0)
  | .int a, .int b => a == b
  | .str a, .str b => a == b
  | _, _ => false
def dInT (d : D) : D → Option Bool
  | .tup ds => if flatD d = true ∧ ds.all flatD = true then some (ds.any fun z => eqF z d) else none
  | _ => none
def dInB (x y : D) : Option Bool := ((D.sub1 x y).or (dInD x y)).or (dInT x y)
def dIn (x y : D) : Option D := (dInB x y).map D.bl
def dNotIn (x y : D) : Option D := (dInB x y).map fun k => D.bl (!k)
def rInM (K : PySem.W.Frag) (neg : Bool) : R2 := fun x y H Q => ∃ p qs, Dp K H x p ∧ Dp K H y (.list qs) ∧ p.canLay0 = true ∧ PyData.canLayAll0 qs = true ∧ min (PyData.depthAll qs) p.depth ≤ 60 ∧ Q (.bl (if neg then !(qs.any fun z => PyData.eqv z p) else qs.any fun z => PyData.eqv z p)) H
theorem op_inM (hu : X.A.units + 64 < cLine) : OpR X (compareOp .In) (rInM X.K false) := by
  intro pins s σ H x y v u Q I rx ry h
  obtain ⟨d, ds, hd, he, sd, se, hm, q⟩ := h
  obtain ⟨as, r1⟩ := Dp.reads I d x v hd rx
  obtain ⟨bs, r2⟩ := Dp.reads I (.list ds) y u he ry
  exact SeqAt.in_list_reads r2 r1 se sd (by omega) ⟨.bl _, H, I, rfl, q⟩
theorem op_notInM (hu : X.A.units + 64 < cLine) : OpR X (compareOp .NotIn) (rInM X.K true) := by
  intro pins s σ H x y v u Q I rx ry h
  obtain ⟨d, ds, hd, he, sd, se, hm, q⟩ := h
  obtain ⟨as, r1⟩ := Dp.reads I d x v hd rx
  obtain ⟨bs, r2⟩ := Dp.reads I (.list ds) y u he ry
  exact SeqAt.notIn_list_reads r2 r1 se sd (by omega) ⟨.bl _, H, I, rfl, q⟩
def rInS (neg : Bool) : R2 := fun x y H Q => ∃ (c : Nat) (z : Str), x = .str ⟨#[c]⟩ ∧ y = .str z ∧ Q (.bl (if neg then !decide (c ∈ z.cps.toList) else decide (c ∈ z.cps.toList))) H
theorem flat_rep {F H : Hp} {d : D} {v : V} (h : RepT Γ F H d v) (f : flatD d = true) : flatV v = true ∧ ∀ {d' : D} {v' : V}, RepT Γ F H d' v' → flatD d' = true → eqV v v' = eqF d d' := by
  have val : ∀ {d : D} {v : V}, RepT Γ F H d v → flatD d = true → (d = .non ∧ v = .non) ∨ (∃ b, d = .bl b ∧ v = .bl b) ∨ (∃ i, d = .int i ∧ v = .int i) ∨ ∃ z, d = .str z ∧ v = .str z := fun {d v} h f => by
    cases d <;> first | (cases f; done) | skip
    · exact .inl ⟨rfl, h.non⟩
    · exact .inr (.inl ⟨_, rfl, h.bl⟩)
    · exact .inr (.inr (.inl ⟨_, rfl, h.int⟩))
    · exact .inr (.inr (.inr ⟨_, rfl, h.str.1⟩))
  refine ⟨?_, fun {d' v'} h' f' => ?_⟩
  · rcases val h f with ⟨rfl, rfl⟩ | ⟨b, rfl, rfl⟩ | ⟨i, rfl, rfl⟩ | ⟨z, rfl, rfl⟩ <;> rfl
  · rcases val h f with ⟨rfl, rfl⟩ | ⟨b, rfl, rfl⟩ | ⟨i, rfl, rfl⟩ | ⟨z, rfl, rfl⟩ <;> rcases val h' f' with ⟨rfl, rfl⟩ | ⟨b', rfl, rfl⟩ | ⟨i', rfl, rfl⟩ | ⟨z', rfl, rfl⟩ <;> rfl
theorem flats_rep {F H : Hp} {d : D} {v : V} (h : RepT Γ F H d v) (f : flatD d = true) : ∀ {ds : List D} {vs : List V}, Reps Γ F ds vs → ds.all flatD = true → vs.all flatV = true ∧ (vs.any fun y => eqV y v) = ds.any fun z => eqF z d
  | [], _, r, _ => by rw [r.nil_inv]; exact ⟨rfl, rfl⟩
  | e :: ds, _, r, fs => by
    obtain ⟨u, r', rfl, r1, r2⟩ := r.cons_inv
    rw [List.all_cons, Bool.and_eq_true] at fs
    obtain ⟨a1, a2⟩ := flats_rep h f r2 fs.2
    obtain ⟨b1, b2⟩ := flat_rep (H := H) (.inl r1) fs.1
    exact ⟨by rw [List.all_cons, b1, a1]; rfl, by rw [List.any_cons, List.any_cons, b2 h f, a2]⟩
theorem in_core {F H : Hp} {x y : D} {v w : V} {b neg : Bool} {Q : VK} (s : Same F H) (rx : RepT Γ F H x v) (ry : RepT Γ F H y w) (e : dInB x y = some b) (k : Q (.bl (if neg then !b else b)) H) :
    rInS neg v w H Q ∨ rInM Γ.K neg v w H Q ∨ rIn Γ.K neg v w H Q := by
  unfold dInB at e
  cases z1 : D.sub1 x y with
  | some b1 =>
    rw [z1] at e; cases e
    unfold D.sub1 at z1
    split at z1
    · rename_i c z
      obtain ⟨e1, _⟩ := rx.str
      obtain ⟨e2, _⟩ := ry.str
      split at z1
      · rename_i kk hk; cases z1
        have : c = ⟨#[kk]⟩ := by
          cases c with | mk a => simp only at hk; congr; exact Array.ext' (by simpa using hk)
        subst this
        exact .inl ⟨kk, z, e1, e2, k⟩
      · cases z1
    · cases z1
  | none =>
    rw [z1] at e
    cases z2 : dInD x y with
    | some b2 =>
      rw [z2] at e; cases e
      simp only [dInD, Option.bind_eq_some_iff] at z2
      obtain ⟨p, h1, q, h2, z2⟩ := z2
      obtain ⟨a1, a2⟩ := dp_ofT s rx h1
      obtain ⟨b1, b2⟩ := dp_ofT s ry h2
      cases q <;> first | (cases z2; done) | skip
      rename_i qs
      simp only at z2
      split at z2
      · rename_i hm; cases z2
        exact .inr (.inl ⟨p, qs, a1, b1, a2, by rw [PyData.canLay0] at b2; exact b2, hm, k⟩)
      · cases z2
    | none =>
      rw [z2] at e
      simp only [Option.none_or] at e
      unfold dInT at e
      split at e
      · rename_i ds
        split at e
        · rename_i hf; cases e
          obtain ⟨a, vs, rfl, q, l, r⟩ := ry.tup s
          obtain ⟨h1, h2⟩ := flats_rep rx hf.1 r hf.2
          refine .inr (.inr ⟨a, vs, rfl, .inr q, (flat_rep rx hf.1).1, h1, ?_⟩)
          unfold inV
          rw [h2]; exact k
        · cases e
      · cases e
theorem ops_in : OpS Γ (fun x y H Q => rInS false x y H Q ∨ (rInM Γ.K false x y H Q ∨ rIn Γ.K false x y H Q)) dIn := fun {F H x y v w Q d} s rx ry e k => by
  simp only [dIn, Option.map_eq_some_iff] at e
  obtain ⟨b, e, rfl⟩ := e
  exact in_core s rx ry e (k _ F H (Gr.refl s) rep_bl)
theorem ops_notIn : OpS Γ (fun x y H Q => rInS true x y H Q ∨ (rInM Γ.K true x y H Q ∨ rIn Γ.K true x y H Q)) dNotIn := fun {F H x y v w Q d} s rx ry e k => by
  simp only [dNotIn, Option.map_eq_some_iff] at e
  obtain ⟨b, e, rfl⟩ := e
  exact in_core s rx ry e (k _ F H (Gr.refl s) rep_bl)
theorem in_rule (hk : Γ.K = X.K) (hu : X.A.units + 64 < cLine) : OpR X (compareOp .In) (fun x y H Q => rInS false x y H Q ∨ (rInM Γ.K false x y H Q ∨ rIn Γ.K false x y H Q)) := by
  rw [hk]; exact OpR.or (r := rInS false) op_in_sign (OpR.or (op_inM hu) op_in_seq)
theorem notIn_rule (hk : Γ.K = X.K) (hu : X.A.units + 64 < cLine) : OpR X (compareOp .NotIn) (fun x y H Q => rInS true x y H Q ∨ (rInM Γ.K true x y H Q ∨ rIn Γ.K true x y H Q)) := by
  rw [hk]; exact OpR.or (r := rInS true) op_notIn_sign (OpR.or (op_notInM hu) op_notIn_seq)
variable {a b : Expr} {db : Env → Res D}
theorem e_in (hk : Γ.K = X.K) (hu : X.A.units + 64 < cLine) (ha : PE X a (tW Γ W da)) (hb : PE X b (tW Γ W db)) (hm : behindInMarks .In b = false := by rfl) : PE X (.Compare a [.In] [b] pos) (tE Γ W (dBin dIn da db)) := e_cmp (in_rule hk hu) ops_in ha hb hm
theorem e_notIn (hk : Γ.K = X.K) (hu : X.A.units + 64 < cLine) (ha : PE X a (tW Γ W da)) (hb : PE X b (tW Γ W db)) (hm : behindInMarks .NotIn b = false := by rfl) : PE X (.Compare a [.NotIn] [b] pos) (tE Γ W (dBin dNotIn da db)) := e_cmp (notIn_rule hk hu) ops_notIn ha hb hm
theorem t_in (hk : Γ.K = X.K) (hu : X.A.units + 64 < cLine) (ha : PE X a (tW Γ W da)) (hb : PE X b (tW Γ W db)) (hm : behindInMarks .In b = false := by rfl) : PT X (.Compare a [.In] [b] pos) (tT Γ W (dT (dBin dIn da db))) := t_cmp (in_rule hk hu) ops_in ha hb hm
theorem t_notIn (hk : Γ.K = X.K) (hu : X.A.units + 64 < cLine) (ha : PE X a (tW Γ W da)) (hb : PE X b (tW Γ W db)) (hm : behindInMarks .NotIn b = false := by rfl) : PT X (.Compare a [.NotIn] [b] pos) (tT Γ W (dT (dBin dNotIn da db))) := t_cmp (notIn_rule hk hu) ops_notIn ha hb hm
end
end Dn

/-! Den11.lean -/
namespace Dn
open PySem PySem.Spec PyProof.Rows L2

/-! ### dicts by texts and ints -/
def keyD : D → Option Key
  | .str z => some (.inr z)
  | .int i => some (.inl i)
  | _ => none
/-- a dict's pairs -/
abbrev KD := List (Key × D)
def putD (m : KD) (k : Key) (d : D) : KD := if (m.any fun p => decide (p.1 = k)) = true then m.map (fun p => if p.1 = k then (p.1, d) else p) else m ++ [(k, d)]
def valD (m : KD) (k : Key) : Option D := (m.find? fun p => decide (p.1 = k)).map (·.2)
def D.dicOf (m : KD) : D := .dic (m.map (·.1)) (m.map (·.2))
def D.kd : D → Option KD
  | .dic ks ds => some (ks.zip ds)
  | _ => none
section
variable {X : Cx} {Γ : Gm} {W : WX} {x : Str} {p pos apos cpos : Pos} {e : Expr} {da db : Env → Res D} {dl : Env → Res (List D)} {i : Nat}
/-- pairs stand for pairs -/
def KR (Γ : Gm) (F : Hp) : KD → List (Key × V) → Prop := Paired fun p q => p.1 = q.1 ∧ Rep Γ F p.2 q.2
theorem KR.of {F : Hp} : ∀ {m : KD} {kvs : List (Key × V)}, kvs.map (·.1) = m.map (·.1) → Reps Γ F (m.map (·.2)) (kvs.map (·.2)) → KR Γ F m kvs
  | [], [], _, _ => .nil
  | [], _ :: _, h, _ => by cases h
  | _ :: _, [], h, _ => by cases h
  | p :: m, q :: kvs, h, r => by
    rw [List.map_cons, List.map_cons] at h r
    obtain ⟨v, vr, e, r1, r2⟩ := r.cons_inv
    injection h with h1 h2
    injection e with e1 e2
    subst e2
    exact .cons ⟨h1.symm, by rw [e1]; exact r1⟩ (KR.of h2 r2)
theorem KR.keys {F : Hp} {m : KD} {kvs : List (Key × V)} (h : KR Γ F m kvs) : kvs.map (·.1) = m.map (·.1) := by
  unfold KR at h
  induction h with
  | nil => rfl
  | cons r _ ih => rw [List.map_cons, List.map_cons, r.1, ih]
theorem KR.vals {F : Hp} {m : KD} {kvs : List (Key × V)} (h : KR Γ F m kvs) : Reps Γ F (m.map (·.2)) (kvs.map (·.2)) := by
  unfold KR at h
  induction h with
  | nil => exact .nil
  | cons r _ ih => exact .cons r.2 ih
theorem KR.mono {F F' : Hp} {m : KD} {kvs : List (Key × V)} (s : Same F F') (h : KR Γ F m kvs) : KR Γ F' m kvs := Paired.mono' (fun _ _ q => ⟨q.1, q.2.mono s⟩) h
theorem KR.any {F : Hp} {m : KD} {kvs : List (Key × V)} (k : Key) (h : KR Γ F m kvs) : (kvs.any fun q => decide (q.1 = k)) = m.any fun q => decide (q.1 = k) := by
  unfold KR at h
  induction h with
  | nil => rfl
  | cons r _ ih => rw [List.any_cons, List.any_cons, r.1, ih]
theorem KR.upd {F : Hp} {m : KD} {kvs : List (Key × V)} (k : Key) {d : D} {v : V} (rv : Rep Γ F d v) (h : KR Γ F m kvs) : KR Γ F (m.map (fun p => if p.1 = k then (p.1, d) else p)) (kvs.map fun p => if p.1 = k then (p.1, v) else p) := by
  unfold KR at h ⊢
  induction h with
  | nil => exact .nil
  | @cons a b as bs r _ ih =>
    rw [List.map_cons, List.map_cons]
    refine .cons ?_ ih
    by_cases hk : b.1 = k
    · rw [if_pos hk, if_pos (r.1.trans hk)]; exact ⟨r.1, rv⟩
    · rw [if_neg hk, if_neg (fun z => hk (r.1.symm.trans z))]; exact ⟨r.1, r.2⟩
theorem KR.app {F : Hp} {m : KD} {kvs : List (Key × V)} (k : Key) {d : D} {v : V} (rv : Rep Γ F d v) (h : KR Γ F m kvs) : KR Γ F (m ++ [(k, d)]) (kvs ++ [(k, v)]) := by
  unfold KR at h ⊢
  induction h with
  | nil => exact .cons ⟨rfl, rv⟩ .nil
  | cons r _ ih => exact .cons r ih
theorem KR.put {F : Hp} {m : KD} {kvs : List (Key × V)} (k : Key) {d : D} {v : V} (rv : Rep Γ F d v) (h : KR Γ F m kvs) : KR Γ F (putD m k d) (putK kvs k v) := by
  unfold putD putK
  rw [h.any k]
  split
  · exact h.upd k rv
  · exact h.app k rv
theorem KR.val {F : Hp} {m : KD} {kvs : List (Key × V)} (k : Key) (h : KR Γ F m kvs) : (valV kvs k = none ∧ valD m k = none) ∨ ∃ v d, valV kvs k = some v ∧ valD m k = some d ∧ Rep Γ F d v := by
  unfold KR at h
  induction h with
  | nil => exact .inl ⟨rfl, rfl⟩
  | @cons a b as bs r _ ih =>
    by_cases hk : b.1 = k
    · exact .inr ⟨b.2, a.2, valV_pos hk, by simp [valD, List.find?_cons, r.1, hk], r.2⟩
    · rw [valV_neg hk]
      have : valD (a :: as) k = valD as k := by simp [valD, List.find?_cons, r.1, hk]
      rw [this]; exact ih
theorem key_rep {F H : Hp} {d : D} {v : V} {k : Key} (r : RepT Γ F H d v) (h : keyD d = some k) : v = kV k := by
  cases d <;> simp only [keyD] at h <;> cases h
  · rw [r.int]; rfl
  · rw [r.str.1]; rfl
theorem KR.length {F : Hp} {m : KD} {kvs : List (Key × V)} (h : KR Γ F m kvs) : kvs.length = m.length := by
  have := h.keys
  have e := congrArg List.length this
  simpa using e
/-- a dict that is looked at -/
theorem dic_at {F H : Hp} {m : KD} {v : V} (s : Same F H) : RepT Γ F H (D.dicOf m) v → ∃ a kvs, v = .ref a ∧ H a = some (.dK kvs) ∧ kvs.length ≤ sizeLine ∧ KR Γ F m kvs
  | .inl h => by
    unfold D.dicOf at h
    rw [Rep] at h
    obtain ⟨a, kvs, rfl, q, e, l, r⟩ := h
    exact ⟨a, kvs, rfl, s _ _ q, l, KR.of e r⟩
  | .inr ⟨a, e1, kvs, q, e, l, r⟩ => ⟨a, kvs, e1, q, l, KR.of e r⟩
theorem top_dic {F H : Hp} {a : Addr} {m : KD} {kvs : List (Key × V)} (h : H a = some (.dK kvs)) (l : kvs.length ≤ sizeLine) (r : KR Γ F m kvs) : Top Γ F H a (D.dicOf m) := ⟨kvs, h, r.keys, l, r.vals⟩

/-- {} -/
theorem n_dic0 : PE X (.Dict [] [] pos) (tN Γ W (dC (D.dicOf []))) := PE.w pe_dnewK fun σ H Q ⟨G, env, F, er, h⟩ => fun q hq => by
  obtain ⟨g, fp⟩ := gr_new (o := .dK []) er.fh hq
  exact h F _ g q hq fp (top_dic upd_same (Nat.zero_le _) .nil)
/-- a written dict -/
def dPairs : List ((Env → Res D) × (Env → Res D)) → Env → Res KD
  | [], _ => .ok []
  | (a, b) :: r, env => (a env).bind fun x => (b env).bind fun y => (dPairs r env).bind fun m => op? ((keyD x).map fun k => (k, y) :: m)
def dDisp (prs : List ((Env → Res D) × (Env → Res D))) : Env → Res D := fun env => (dPairs prs env).bind fun m => if m.length ≤ 15 then .ok (D.dicOf (m.foldl (fun acc p => putD acc p.1 p.2) [])) else .err
def trE (Γ : Gm) (W : WX) (prs : List ((Env → Res D) × (Env → Res D))) : List (TE × TE) := prs.map fun p => (tE Γ W p.1, tE Γ W p.2)
theorem pairs_r {G : Gd} {env : Env} {σ : L2.St} : ∀ {prs : List ((Env → Res D) × (Env → Res D))} {F H : Hp} {Q : List (V × V) → Hp → Prop}, ER Γ G env σ F H →
    post Γ W σ F H (dPairs prs env) (fun m F' H' => ∀ kvs : List (Key × V), KR Γ F' m kvs → Q (kvs.map fun kv => (kV kv.1, kv.2)) H') → tPairs (trE Γ W prs) σ H Q
  | [], F, H, Q, er, h => post.ok (W := W) er h [] .nil
  | (a, b) :: prs, F, H, Q, er, h => by
    refine ⟨G, env, F, er, h.bind.imp fun x F1 H1 _ g1 h1 v r1 => ⟨G, env, F1, er.gr g1, h1.bind.imp fun y F2 H2 _ g2 h2 w r2 => ?_⟩⟩
    refine pairs_r ((er.gr g1).gr g2) (h2.bind.imp fun m F3 H3 _ g3 h3 kvs kr => ?_)
    cases z : keyD x with
    | none => rw [z] at h3; exact h3.elim
    | some k =>
      rw [z] at h3
      have e3 := ((er.gr g1).gr g2).gr g3
      have ek : v = kV k := key_rep (H := H1) (.inl r1) z
      subst ek
      exact h3.ok e3 ((k, w) :: kvs) (.cons ⟨rfl, r2.mono g3.ff⟩ kr)
theorem kr_merge {F : Hp} {m : KD} {kvs : List (Key × V)} (h : KR Γ F m kvs) : ∀ {acc : KD} {av : List (Key × V)}, KR Γ F acc av → KR Γ F (m.foldl (fun acc p => putD acc p.1 p.2) acc) (mergeK av kvs) := by
  unfold KR at h
  induction h with
  | nil => intro acc av h; exact h
  | @cons a b as bs r _ ih =>
    intro acc av h
    show KR Γ F (as.foldl (fun acc p => putD acc p.1 p.2) (putD acc a.1 a.2)) (mergeK (putK av b.1 b.2) bs)
    rw [← r.1]
    exact ih (h.put a.1 r.2)
theorem n_disp {keys : List (Option Expr)} {values : List Expr} {prs : List ((Env → Res D) × (Env → Res D))} (h : PPs X pos keys values (trE Γ W prs)) (hall : keys.all (·.isSome) = true := by rfl) (hl : keys.length = values.length := by rfl) (h0 : keys ≠ [] := by exact fun h => nomatch h) (h15 : keys.length ≤ 15 := by decide) :
    PE X (.Dict keys values pos) (tN Γ W (dDisp prs)) := PE.w (pe_disp h hall hl h0 h15) fun σ H Q ⟨G, env, F, er, q⟩ => fun a ha => by
  obtain ⟨g0, fa⟩ := gr_new (o := .dK []) er.fh ha
  have er0 := er.gr g0
  refine pairs_r er0 ?_
  unfold dDisp at q
  cases z : dPairs prs env with
  | err => rw [z] at q; exact q.elim
  | exc c fs => rw [z] at q; exact q.mono g0
  | ok m =>
    rw [z] at q
    simp only [Res.bind_ok] at q
    intro F1 H1 g1 kvs kr
    have hH1 : H1 a = some (.dK []) := g1.hh _ _ upd_same
    have f1 : F1 a = none := by
      cases z : F1 a with
      | none => rfl
      | some o =>
        rcases g1.new a o z with y | y
        · rw [fa] at y; cases y
        · rw [upd_same] at y; cases y
    split at q
    · rename_i hm
      refine ⟨hH1, kvs, rfl, by rw [kr.length]; exact hm, ?_⟩
      have gg := g0.trans g1
      refine q F1 _ ⟨gg.ff, fun p o y => ?_, fun p o y => ?_, gg.new⟩ a ha f1 (top_dic upd_same ?_ (kr_merge kr .nil))
      · rw [upd_ne (ne_of_none y f1)]; exact gg.fh p o y
      · rw [upd_ne (ne_of_none y ha)]; exact gg.hh p o y
      · have h1 := length_mergeK kvs []
        have h2 := kr.length
        rw [List.length_nil] at h1
        rw [sizeLine_eq]; omega
    · exact q.elim
theorem flat_disp {prs : List ((Env → Res D) × (Env → Res D))} : ∀ env d, dDisp prs env = .ok d → flat d = true := fun env d h => by
  unfold dDisp at h
  cases z : dPairs prs env with
  | ok m => rw [z] at h; simp only [Res.bind_ok] at h; split at h <;> cases h; rfl
  | exc c fs => rw [z] at h; cases h
  | err => rw [z] at h; cases h
end
end Dn

/-! Den12.lean -/
namespace Dn
open PySem PySem.Spec PyProof.Rows L2
theorem script_rep {Γ : Gm} {H : Hp} {a : Addr} {ns : List Int} (hl : ns.length ≤ 63) (q : SqL Γ.K H a (ns.map V.int)) : Rep Γ H (.scr ns) (.ref a) := by
  rw [Rep]
  refine ⟨a, rfl, Nat.le_trans hl (by decide), q, ?_⟩
  rcases q with (q | ⟨o, q⟩) | ⟨o, its, n, q, c, _⟩
  · exact .inl ⟨_, q⟩
  · exact .inr (.inl ⟨o, _, q⟩)
  · exact .inr (.inr ⟨o, q, c⟩)
theorem end_sp {Γ : Gm} {f : List D → Res D} (ht : ∀ ns : List Int, ns.length ≤ 63 → f [.scr ns] = .ok (.bl true)) {vs : List V} {H : Hp} {Q : VK} {E : XK} {a : Addr} {ns : List Int} (e : vs = [.ref a]) (q : SqL Γ.K H a (ns.map V.int)) (hl : ns.length ≤ 63) (k : ∀ H', Q (.bl true) H') : spD Γ 1 f vs H Q E := by
  subst e
  refine ⟨[.scr ns], H, rfl, Same.refl _, .cons (script_rep hl q) .nil, ?_⟩
  rw [ht ns hl]
  intro v F' H' g r
  rw [Rep] at r
  subst r
  exact k H'
end Dn

/-! Den13.lean -/
namespace Dn
open PySem PySem.Spec PyProof.Rows L2

/-! ### fields -/
/-- the place of an attribute among a class's -/
def fIx : List Str → Str → Option Nat
  | [], _ => none
  | g :: r, f => if f == g then some 0 else (fIx r f).map (· + 1)
theorem fIx_lookup : ∀ {ns : List Str} {fs : List (Str × V)} {f : Str} {j k : Nat}, fs.map (·.1) = ns.take k → fIx ns f = some j → j < k → ∃ v, fs.lookup f = some v ∧ (fs.map (·.2))[j]? = some v
  | [], fs, f, j, k, _, h, _ => by cases h
  | g :: r, fs, f, j, 0, _, _, hj => absurd hj (Nat.not_lt_zero _)
  | g :: r, [], f, j, k + 1, e, _, _ => by cases e
  | g :: r, (g', x) :: fs, f, j, k + 1, e, h, hj => by
    simp only [List.map_cons, List.take_succ_cons, List.cons.injEq] at e
    obtain ⟨rfl, e⟩ := e
    unfold fIx at h
    by_cases hb : (f == g') = true
    · rw [if_pos hb] at h; cases h
      exact ⟨x, by simp only [List.lookup, hb], rfl⟩
    · rw [if_neg hb] at h
      cases z : fIx r f with
      | none => rw [z] at h; cases h
      | some i =>
        rw [z] at h; cases h
        obtain ⟨v, a, b⟩ := fIx_lookup (j := i) (k := k) e z (by simp only at hj; omega)
        refine ⟨v, ?_, by simpa using b⟩
        have hb' : (f == g') = false := by simpa using hb
        simp only [List.lookup, hb']; exact a
theorem fIx_none : ∀ {ns : List Str} {fs : List (Str × V)} {f : Str} {k : Nat}, fs.map (·.1) = ns.take k → fIx ns f = none → fs.lookup f = none
  | [], fs, f, k, e, _ => by
    cases fs with
    | nil => rfl
    | cons p r => simp at e
  | g :: r, [], f, k, e, _ => rfl
  | g :: r, (g', x) :: fs, f, 0, e, h => by simp at e
  | g :: r, (g', x) :: fs, f, k + 1, e, h => by
    simp only [List.map_cons, List.take_succ_cons, List.cons.injEq] at e
    obtain ⟨rfl, e⟩ := e
    unfold fIx at h
    by_cases hb : (f == g') = true
    · rw [if_pos hb] at h; cases h
    · rw [if_neg hb] at h
      have hb' : (f == g') = false := by simpa using hb
      simp only [List.lookup, hb']
      exact fIx_none (k := k) e (by cases z : fIx r f with | none => rfl | some i => rw [z] at h; cases h)
theorem fIx_lt : ∀ {ns : List Str} {f : Str} {j : Nat}, fIx ns f = some j → ns[j]? = some f
  | [], f, j, h => by cases h
  | g :: r, f, j, h => by
    unfold fIx at h
    by_cases hb : (f == g) = true
    · rw [if_pos hb] at h; cases h; simp [(beq_iff_eq.mp hb)]
    · rw [if_neg hb] at h
      cases z : fIx r f with
      | none => rw [z] at h; cases h
      | some i => rw [z] at h; cases h; simpa using fIx_lt z
theorem putF_old {y : V} : ∀ {ns : List Str} {fs : List (Str × V)} {f : Str} {j k : Nat}, fs.map (·.1) = ns.take k → fIx ns f = some j → j < k → (putF f y fs).map (·.1) = ns.take k ∧ (putF f y fs).map (·.2) = (fs.map (·.2)).set j y
  | [], fs, f, j, k, _, h, _ => by cases h
  | g :: r, fs, f, j, 0, _, _, hj => absurd hj (Nat.not_lt_zero _)
  | g :: r, [], f, j, k + 1, e, _, _ => by cases e
  | g :: r, (g', x) :: fs, f, j, k + 1, e, h, hj => by
    simp only [List.map_cons, List.take_succ_cons, List.cons.injEq] at e
    obtain ⟨rfl, e⟩ := e
    unfold fIx at h
    rw [show putF f y ((g', x) :: fs) = (if g' = f then (g', y) :: fs else (g', x) :: putF f y fs) from rfl]
    by_cases hb : (f == g') = true
    · rw [if_pos hb] at h; cases h
      rw [if_pos (beq_iff_eq.mp hb).symm]
      simp [e]
    · rw [if_neg hb] at h
      have hn : ¬ g' = f := fun z => hb (beq_iff_eq.mpr z.symm)
      cases z : fIx r f with
      | none => rw [z] at h; cases h
      | some i =>
        rw [z] at h; cases h
        obtain ⟨a, b⟩ := putF_old (y := y) (j := i) (k := k) e z (by simp only at hj; omega)
        rw [if_neg hn]
        simp [a, b]
theorem putF_new {y : V} : ∀ {ns : List Str} {fs : List (Str × V)} {f : Str} {k : Nat}, fs.map (·.1) = ns.take k → fIx ns f = some k → (putF f y fs).map (·.1) = ns.take (k + 1) ∧ (putF f y fs).map (·.2) = fs.map (·.2) ++ [y]
  | [], fs, f, k, _, h => by cases h
  | g :: r, fs, f, 0, e, h => by
    have : fs = [] := by simpa using e
    subst this
    unfold fIx at h
    by_cases hb : (f == g) = true
    · simp [putF, beq_iff_eq.mp hb]
    · rw [if_neg hb] at h
      cases z : fIx r f with
      | none => rw [z] at h; cases h
      | some i => rw [z] at h; cases h
  | g :: r, [], f, k + 1, e, h => by cases e
  | g :: r, (g', x) :: fs, f, k + 1, e, h => by
    simp only [List.map_cons, List.take_succ_cons, List.cons.injEq] at e
    obtain ⟨rfl, e⟩ := e
    unfold fIx at h
    rw [show putF f y ((g', x) :: fs) = (if g' = f then (g', y) :: fs else (g', x) :: putF f y fs) from rfl]
    by_cases hb : (f == g') = true
    · rw [if_pos hb] at h; cases h
    · rw [if_neg hb] at h
      have hn : ¬ g' = f := fun z => hb (beq_iff_eq.mpr z.symm)
      cases z : fIx r f with
      | none => rw [z] at h; cases h
      | some i =>
        rw [z] at h
        have hi : i = k := by simpa using h
        subst hi
        obtain ⟨a, b⟩ := putF_new (y := y) e z
        rw [if_neg hn]
        simp [a, b]
theorem lookup_mem {α : Type} {c : Nat} {x : α} : ∀ {tab : List (Nat × α)}, tab.lookup c = some x → (c, x) ∈ tab
  | [], h => by cases h
  | (k, y) :: r, h => by
    by_cases hb : (c == k) = true
    · simp only [List.lookup, hb] at h; cases h
      rw [beq_iff_eq.mp hb]; exact List.mem_cons_self
    · have hb' : (c == k) = false := by simpa using hb
      simp only [List.lookup, hb'] at h
      exact List.mem_cons_of_mem _ (lookup_mem h)
theorem fa_nil {α : Type} {p : α → Prop} : ∀ x ∈ ([] : List α), p x := fun _ h => by cases h
theorem fa_cons {α : Type} {p : α → Prop} {a : α} {l : List α} (h : p a) (t : ∀ x ∈ l, p x) : ∀ x ∈ a :: l, p x := fun x hx => by
  rcases List.mem_cons.mp hx with e | e
  · exact e ▸ h
  · exact t x e

section
variable {X : Cx} {Γ : Gm} {W : WX} {pos pos' p2 : Pos} {e : Expr} {f : Str} {da : Env → Res D} {i : Nat}
theorem RepT.obj {F H : Hp} {c : Nat} {ds : List D} {v : V} (s : Same F H) : RepT Γ F H (.obj c ds) v → ∃ a dx fs, v = .ref a ∧ H a = some (.ins (Γ.cls c) dx fs) ∧ fs.map (·.1) = (Γ.flds c).take ds.length ∧ Reps Γ F ds (fs.map (·.2))
  | .inl h => by
    rw [Rep] at h; obtain ⟨a, dx, fs, e, q, l, r⟩ := h
    refine ⟨a, dx, fs, e, s _ _ q, ?_, r⟩
    have h1 : ds.length = (Γ.flds c).length := by rw [← r.length, ← l]; simp
    rw [h1, List.take_length, l]
  | .inr ⟨a, e, dx, fs, q, l, r⟩ => ⟨a, dx, fs, e, q, l, r⟩
/-- a class whose instances have the attribute at j -/
structure FO (Γ : Gm) (c : Nat) (f : Str) (j : Nat) : Prop where
  cl : Cls Γ.K (Γ.cls c)
  na : NoAttr Γ.K (Γ.cls c) f
  ix : fIx (Γ.flds c) f = some j
  sm : (Γ.flds c).length < 1000
def dFld (tab : List (Nat × Nat)) : D → Option D
  | .obj c ds => (tab.lookup c).bind fun j => ds[j]?
  | _ => none
theorem e_fld {tab : List (Nat × Nat)} (hk : Γ.K = X.K) (hT : ∀ p ∈ tab, FO Γ p.1 f p.2) (he : PE X e (tW Γ W da)) (hb : attributeBase e f X.env (eval e X.env) = eval e X.env := by rfl) : PE X (.Attribute e f pos) (tE Γ W (dUn (dFld tab) da)) :=
  PE.w (pe_fld he hb) fun σ H Q ⟨G, env, F, er, h⟩ => by
  refine ⟨G, env, F, er, h.bind.imp fun d F1 H1 _ g1 h1 v r => ?_⟩
  cases d with
  | obj c ds => ?_
  | _ => exact h1.elim
  obtain ⟨a, dx, fs, rfl, q, l, rr⟩ := r.obj (er.gr g1).fh
  unfold dFld at h1
  simp only at h1
  cases z : tab.lookup c with
  | none => rw [z] at h1; exact h1.elim
  | some j =>
    rw [z] at h1
    simp only [Option.bind_some] at h1
    have T := hT _ (lookup_mem z)
    cases z2 : ds[j]? with
    | none => rw [z2] at h1; exact h1.elim
    | some d =>
      rw [z2] at h1
      obtain ⟨v, lv, jv⟩ := fIx_lookup l T.ix (List.getElem?_eq_some_iff.mp z2).1
      obtain ⟨u, ju, ru⟩ := rr.get z2
      rw [jv] at ju; cases ju
      exact ⟨a, Γ.cls c, dx, fs, v, rfl, q, hk ▸ T.cl, hk ▸ T.na, lv, h1.ok (er.gr g1) v ru⟩
/-- self.f = e at the own object of slot i -/
def dFst (tab : List (Nat × Nat)) (i : Nat) (den : Env → Res D) : Env → Out := fun env => match den env with
  | .ok d => match env[i]? with
    | some (.own (.obj c ds)) => match tab.lookup c with
      | some j => if j < ds.length then .nx (env.set i (.own (.obj c (ds.set j d)))) else if j = ds.length then .nx (env.set i (.own (.obj c (ds ++ [d])))) else .err
      | none => .err
    | _ => .err
  | .exc c fs => .exc env c fs
  | .err => .err
theorem s_fst {tab : List (Nat × Nat)} {x : Str} {value : Expr} {den : Env → Res D} (hk : Γ.K = X.K) (hT : ∀ p ∈ tab, FO Γ p.1 f p.2) (hp : PE X (.Name x p2) (tVar i)) (he : PE X value (tE Γ W den)) (hs : swapsWith value (some (.Attribute (.Name x p2) f pos')) pos.line X.env = pure false := by rfl) :
    PS X (.Assign [.Attribute (.Name x p2) f pos'] value pos) (tS Γ W (dFst tab i den)) := PS.w (ps_fld hp he hs) fun Dd σ H ⟨G, env, F, er, q⟩ => by
  refine ⟨G, env, F, er, ?_⟩
  unfold dFst at q
  cases z0 : den env with
  | err => rw [z0] at q; exact q.elim
  | exc c fs => rw [z0] at q; exact fun F' H' d g x => q σ F' H' d g.ff (er.gr g) x
  | ok d =>
    rw [z0] at q
    simp only at q
    intro F1 H1 g1 y ry
    have er1 := er.gr g1
    split at q
    · rename_i c ds hown
      obtain ⟨a, hσ, fa, dx, fs, ha, l, rr⟩ := own_at er1 hown
      cases z : tab.lookup c with
      | none => rw [z] at q; exact q.elim
      | some j =>
        rw [z] at q
        simp only at q
        have T := hT _ (lookup_mem z)
        have T1 := T.cl; have T2 := T.na; have T3 := T.ix; have T4 := T.sm
        simp only at T1 T2 T3 T4
        have hfl : fs.length = ds.length := by simpa using rr.length
        have hjl : j < (Γ.flds c).length := (List.getElem?_eq_some_iff.mp (fIx_lt T3)).1
        have hl : fs.length < 1000 := by
          have : (fs.map (·.1)).length = ((Γ.flds c).take ds.length).length := by rw [l]
          simp only [List.length_map, List.length_take] at this
          omega
        refine ⟨.ref a, hσ, a, Γ.cls c, dx, fs, rfl, ha, hk ▸ T1, hk ▸ T2, hl, ?_⟩
        split at q
        · rename_i hj
          obtain ⟨p1, p2⟩ := putF_old (y := y) l T3 hj
          exact q σ F1 _ g1.ff (er1.write hown hσ ⟨dx, _, upd_same, by rw [p1, List.length_set], by rw [p2]; exact Reps.set ry j rr⟩)
        · split at q
          · rename_i hj hj2
            subst hj2
            obtain ⟨p1, p2⟩ := putF_new (y := y) l T3
            exact q σ F1 _ g1.ff (er1.write hown hσ ⟨dx, _, upd_same, by rw [p1, List.length_append]; rfl, by rw [p2]; exact rr.append (.cons ry .nil)⟩)
          · exact q.elim
    · exact q.elim
end

/-! ### __init__ -/
/-- growth beside x -/
structure GrX (x : Addr) (F H F' H' : Hp) : Prop where
  ff : Same F F'
  fh : Same F' H'
  hx : ∀ p o, p ≠ x → H p = some o → H' p = some o
  new : ∀ p o, F' p = some o → F p = some o ∨ H p = none ∨ p = x
section
variable (Γ : Gm)
def rPostI (x : Addr) (c : Nat) (F H : Hp) (r : Res (List D)) (Q : VK) (E : XK) : Prop := match r with
  | .ok ds => ∀ F' H', GrX x F H F' H' → F' x = none → Top Γ F' H' x (.obj c ds) → Q .non H'
  | .exc c' fs => ∀ F' H' d, GrX x F H F' H' → XD Γ F' c' fs d → E (.ref (Γ.cls c')) d H'
  | .err => False
/-- what an __init__ promises: the fields ahead, the arguments; the fields behind -/
def spI (n : Nat) (g : Nat → List D → List D → Res (List D)) : Sp := fun vs H Q E => ∃ x us c ds0 ds F, vs = .ref x :: us ∧ ds.length = n ∧ Same F H ∧ F x = none ∧ Top Γ F H x (.obj c ds0) ∧ Reps Γ F ds us ∧ rPostI Γ x c F H (g c ds0 ds) Q E
end
def envI (n N c : Nat) (ds0 ds : List D) : Env := .own (.obj c ds0) :: (ds.map Slot.val ++ List.replicate (N - (n + 1)) .un)
def outI (c : Nat) : Out → Res (List D)
  | .nx e => match (e[0]? : Option Slot) with
    | some (Slot.own (D.obj c' ds)) => if c' = c then .ok ds else .err
    | _ => .err
  | .exc _ c fs => .exc c fs
  | _ => .err
def dInit (n N : Nat) (body : Env → Out) : Nat → List D → List D → Res (List D) := fun c ds0 ds => outI c (body (envI n N c ds0 ds))
section
variable {P : Program} {w : World} {K : PySem.W.Frag} {mg : Str → Option Value} {base : Heap} {Γ : Gm}
theorem er_startI {n N c : Nat} {ds0 ds : List D} {us : List V} {F H : Hp} {x : Addr} (hl : ds.length = n) (s : Same F H) (fx : F x = none) (t : Top Γ F H x (.obj c ds0)) (r : Reps Γ F ds us) :
    ER Γ ⟨fun p => if p = x then none else H p, F, some x, fun _ => none⟩ (envI n N c ds0 ds) ((V.ref x :: us).map some ++ List.replicate (N - (V.ref x :: us).length) none) F H := by
  have hu : us.length = n := r.length.trans hl
  have own : ∀ (i : Nat) d, (envI n N c ds0 ds)[i]? = some (.own d) → i = 0 := fun i d q => by
    cases i with
    | zero => rfl
    | succ i =>
      unfold envI at q
      rw [List.getElem?_cons_succ] at q
      rcases List.mem_append.mp (List.mem_of_getElem? q) with z | z
      · obtain ⟨a, _, e⟩ := List.mem_map.mp z; cases e
      · cases List.eq_of_mem_replicate z
  refine ⟨?_, s, fun p o q => ?_, Same.refl _, fun p o q => .inl q, fun i sl q => ?_, fun i j a di dj q1 q2 _ _ => (own i di q1).trans (own j dj q2).symm, fun y d h _ => ?_⟩
  · simp [envI, hu, hl]
  · show H p = some o
    by_cases hp : p = x
    · simp only [hp, if_pos] at q; cases q
    · simp only [if_neg hp] at q; exact q
  · cases i with
    | zero =>
      simp only [envI, List.getElem?_cons_zero] at q
      cases q
      refine ⟨some (.ref x), by simp, x, rfl, fx, ?_, t⟩
      simp
    | succ i =>
      unfold envI at q
      rw [List.getElem?_cons_succ] at q
      have e1 : ((V.ref x :: us).map some ++ List.replicate (N - (V.ref x :: us).length) none)[i + 1]? = (us.map some ++ List.replicate (N - (n + 1)) (none : Option V))[i]? := by
        simp [hu]
      rw [e1]
      by_cases hi : i < n
      · rw [List.getElem?_append_left (by simp [hl, hi]), List.getElem?_map] at q
        cases z : ds[i]? with
        | none => rw [z] at q; cases q
        | some d =>
          rw [z] at q; cases q
          obtain ⟨v, hv', rv⟩ := r.get z
          exact ⟨some v, by rw [List.getElem?_append_left (by simp [hu, hi]), List.getElem?_map, hv']; rfl, v, rfl, rv⟩
      · rw [List.getElem?_append_right (by simp [hl]; omega), List.getElem?_replicate] at q
        split at q
        · rename_i hlt
          cases q
          refine ⟨none, ?_, trivial⟩
          rw [List.getElem?_append_right (by simp [hu]; omega), List.getElem?_replicate, if_pos]
          simp only [List.length_map, hu] ; simp only [List.length_map, hl] at hlt; exact hlt
        · cases q
  · cases h; simp
theorem ER.outX {x : Addr} {env : Env} {σ : L2.St} {F H F' H' : Hp} {m : Option Addr} (e : ER Γ ⟨fun p => if p = x then none else H p, F, m, fun _ => none⟩ env σ F' H') (s : Same F F') : GrX x F H F' H' := ⟨s, e.fh, fun p o hp q => e.bh p o (by simp only [if_neg hp]; exact q), fun p o q => by
  rcases e.fr p o q with z | z
  · exact .inl z
  · by_cases hp : p = x
    · exact .inr (.inr hp)
    · simp only [if_neg hp] at z; exact .inr (.inl z)⟩
theorem init_ok {x qual : Str} {st : Stmt} {f : Addr} {fd : FuncData} {N ps : List Str} {k n : Nat} {den : Env → Out} (F : Fun K x qual st f fd) (S : FnScope N ps (defScope st)) (hn : ps.length = n + 1)
    (body : ∀ (cdv : Value) (A : Around) (outer : List PySem.Env) (s : Shared) (H : Hp) (E : XK), Room k (A.deeper (envOfC qual (defScope st) s.heap.objs.size f cdv)) →
      PSs (cxOf (L2.CX P w) P w K mg base N qual (defScope st) f cdv A outer s H E) (defBody st) (tS Γ (fun c d _ H => E c d H) den)) :
    FnOk P w K mg base (L2.CX P w) (k + 1) f fd ps (spI Γ n (dInit n N.length den)) := by
  refine F.okX S (fun vs H Q E ⟨x, us, c, ds0, ds, F, e, hl, s, fx, t, r, _⟩ => by rw [e, List.length_cons, r.length, hl, hn]) (fun cdv A outer s H vs Q E hr h => ⟨_, body cdv A outer s H E hr, ?_⟩)
  obtain ⟨x, us, c, ds0, ds, F0, rfl, hl, sm, fx, t, r, q⟩ := h
  refine ⟨⟨fun p => if p = x then none else H p, F0, some x, fun _ => none⟩, envI n N.length c ds0 ds, F0, er_startI (Γ := Γ) (N := N.length) hl sm fx t r, ?_⟩
  unfold dInit at q
  cases z : den (envI n N.length c ds0 ds) with
  | nx e =>
    rw [z] at q
    unfold outI at q
    intro σ' F' H' s' er'
    simp only at q
    split at q
    · rename_i c' ds' h0
      split at q
      · rename_i hc
        subst hc
        have hm := er'.me x _ rfl h0
        obtain ⟨y, hy, a, e1, fa, _, ta⟩ := er'.sl 0 _ h0
        rw [hm] at hy; cases hy; cases e1
        exact q F' H' (er'.outX s') fa ta
      · exact q.elim
    · exact q.elim
  | ret d => rw [z] at q; exact q.elim
  | bk e => rw [z] at q; exact q.elim
  | ct e => rw [z] at q; exact q.elim
  | exc e c fs => rw [z] at q; exact fun σ' F' H' d s' er' x' => q F' H' d (er'.outX s') x'
  | err => rw [z] at q; exact q.elim
/-- the same of a def with defaults -/
theorem init_okD {x qual : Str} {params : Arguments} {bd : List Stmt} {sc : Scope} {dvs : List V} {kws : List (Str × V)} {f : Addr} {fd : FuncData} {N ps : List Str} {k n : Nat} {den : Env → Out} (F : FunD K x qual params bd sc dvs kws f fd) (S : FnScope N ps sc) (hn : ps.length = n + 1)
    (body : ∀ (cdv : Value) (A : Around) (outer : List PySem.Env) (s : Shared) (H : Hp) (E : XK), Room k (A.deeper (envOfC qual sc s.heap.objs.size f cdv)) →
      PSs (cxOf (L2.CX P w) P w K mg base N qual sc f cdv A outer s H E) bd (tS Γ (fun c d _ H => E c d H) den)) :
    FnOk P w K mg base (L2.CX P w) (k + 1) f fd ps (spI Γ n (dInit n N.length den)) := by
  refine F.ok S (fun vs H Q E ⟨x, us, c, ds0, ds, F, e, hl, s, fx, t, r, _⟩ => by rw [e, List.length_cons, r.length, hl, hn]) (fun cdv A outer s H vs Q E hr h => ⟨_, body cdv A outer s H E hr, ?_⟩)
  obtain ⟨x, us, c, ds0, ds, F0, rfl, hl, sm, fx, t, r, q⟩ := h
  refine ⟨⟨fun p => if p = x then none else H p, F0, some x, fun _ => none⟩, envI n N.length c ds0 ds, F0, er_startI (Γ := Γ) (N := N.length) hl sm fx t r, ?_⟩
  unfold dInit at q
  cases z : den (envI n N.length c ds0 ds) with
  | nx e =>
    rw [z] at q
    unfold outI at q
    intro σ' F' H' s' er'
    simp only at q
    split at q
    · rename_i c' ds' h0
      split at q
      · rename_i hc
        subst hc
        have hm := er'.me x _ rfl h0
        obtain ⟨y, hy, a, e1, fa, _, ta⟩ := er'.sl 0 _ h0
        rw [hm] at hy; cases hy; cases e1
        exact q F' H' (er'.outX s') fa ta
      · exact q.elim
    · exact q.elim
  | ret d => rw [z] at q; exact q.elim
  | bk e => rw [z] at q; exact q.elim
  | ct e => rw [z] at q; exact q.elim
  | exc e c fs => rw [z] at q; exact fun σ' F' H' d s' er' x' => q F' H' d (er'.outX s') x'
  | err => rw [z] at q; exact q.elim
theorem fn_okD {x qual : Str} {params : Arguments} {bd : List Stmt} {sc : Scope} {dvs : List V} {kws : List (Str × V)} {f : Addr} {fd : FuncData} {N ps : List Str} {k : Nat} {den : Env → Out} (F : FunD K x qual params bd sc dvs kws f fd) (S : FnScope N ps sc)
    (body : ∀ (cdv : Value) (A : Around) (outer : List PySem.Env) (s : Shared) (H : Hp) (E : XK), Room k (A.deeper (envOfC qual sc s.heap.objs.size f cdv)) →
      PSs (cxOf (L2.CX P w) P w K mg base N qual sc f cdv A outer s H E) bd (tS Γ (fun c d _ H => E c d H) den)) :
    FnOk P w K mg base (L2.CX P w) (k + 1) f fd ps (spD Γ ps.length (dFn ps.length N.length den)) := by
  refine F.ok S (fun vs H Q E ⟨ds, F0, hl, s, r, _⟩ => by rw [r.length, hl]) (fun cdv A outer s H vs Q E hr h => ⟨_, body cdv A outer s H E hr, ?_⟩)
  obtain ⟨ds, F0, hl, sm, r, q⟩ := h
  refine ⟨⟨H, F0, none, fun _ => none⟩, env0 ps.length N.length ds, F0, ?_, ?_⟩
  · have := er_start (Γ := Γ) (N := N.length) hl sm r
    exact this
  · unfold dFn at q
    cases z : den (env0 ps.length N.length ds) with
    | nx e => rw [z] at q; exact fun σ' F' H' s' er' => q .non F' H' (er'.out (n := 0) (N := 0) s') (by rw [Rep])
    | ret d => rw [z] at q; exact fun v e σ' F' H' s' er' r' => q v F' H' (er'.out (n := 0) (N := 0) s') r'
    | bk e => rw [z] at q; exact q.elim
    | ct e => rw [z] at q; exact q.elim
    | exc e c fs => rw [z] at q; exact fun σ' F' H' d s' er' x' => q F' H' d (er'.out (n := 0) (N := 0) s') x'
    | err => rw [z] at q; exact q.elim
end
end Dn

/-! Den14.lean -/
namespace Dn
open PySem PySem.Spec PyProof.Rows L2

theorem FnD.mono {P : Program} {w : World} {K : PySem.W.Frag} {mg : Str → Option Value} {base : Heap} {Γ : Gm} {j k : Nat} {f : Addr} {n : Nat} {dfl : List D} {g : List D → Res D} (F : FnD P w K mg base Γ j f n dfl g) (h : j ≤ k) : FnD P w K mg base Γ k f n dfl g :=
  let ⟨fd, ps, ds, dvs, F1, b, hv, hd⟩ := F.ex
  ⟨⟨fd, ps, ds, dvs, F1.mono h, b, hv, hd⟩, F.kp⟩
/-- .. where defaults fill up -/
theorem FnD.mkD {P : Program} {w : World} {K : PySem.W.Frag} {mg : Str → Option Value} {base : Heap} {Γ : Gm} {k n : Nat} {f : Addr} {fd : FuncData} {ps : List Str} {g : List D → Res D} {dvs : List V} {dfl : List D} (F : FnOk P w K mg base (L2.CX P w) k f fd ps (spD Γ n g))
    (b : ∃ ds, Vals dvs ds ∧ Binds K fd ps ds) (hd : ∀ F, Reps Γ F dfl dvs) (kp : PySem.W.keepIn K (.ref f) = true) : FnD P w K mg base Γ k f n dfl g :=
  let ⟨ds, hv, hb⟩ := b
  ⟨⟨fd, ps, ds, dvs, F, hb, hv, hd⟩, kp⟩
/-- an __init__ as callers take it -/
structure InD (P : Program) (w : World) (K : PySem.W.Frag) (mg : Str → Option Value) (base : Heap) (Γ : Gm) (k : Nat) (f : Addr) (n : Nat) (dfl : List D) (g : Nat → List D → List D → Res (List D)) : Prop where
  ex : ∃ fd ps ds dvs, FnOk P w K mg base (L2.CX P w) k f fd ps (spI Γ n g) ∧ Binds K fd ps ds ∧ Vals dvs ds ∧ ∀ F, Reps Γ F dfl dvs
  kp : PySem.W.keepIn K (.ref f) = true
theorem InD.mk0 {P : Program} {w : World} {K : PySem.W.Frag} {mg : Str → Option Value} {base : Heap} {Γ : Gm} {k n : Nat} {f : Addr} {fd : FuncData} {ps : List Str} {g : Nat → List D → List D → Res (List D)} (F : FnOk P w K mg base (L2.CX P w) k f fd ps (spI Γ n g)) (b : Binds K fd ps []) (kp : PySem.W.keepIn K (.ref f) = true) : InD P w K mg base Γ k f n [] g :=
  ⟨⟨fd, ps, [], [], F, b, .nil, fun _ => .nil⟩, kp⟩
theorem InD.mkD {P : Program} {w : World} {K : PySem.W.Frag} {mg : Str → Option Value} {base : Heap} {Γ : Gm} {k n : Nat} {f : Addr} {fd : FuncData} {ps : List Str} {g : Nat → List D → List D → Res (List D)} {dvs : List V} {dfl : List D} (F : FnOk P w K mg base (L2.CX P w) k f fd ps (spI Γ n g))
    (b : ∃ ds, Vals dvs ds ∧ Binds K fd ps ds) (hd : ∀ F, Reps Γ F dfl dvs) (kp : PySem.W.keepIn K (.ref f) = true) : InD P w K mg base Γ k f n dfl g :=
  let ⟨ds, hv, hb⟩ := b
  ⟨⟨fd, ps, ds, dvs, F, hb, hv, hd⟩, kp⟩
/-- a class with its __init__ -/
structure MkD (P : Program) (w : World) (K : PySem.W.Frag) (mg : Str → Option Value) (base : Heap) (Γ : Gm) (k : Nat) (C : Addr) (n : Nat) (dfl : List D) (g : Nat → List D → List D → Res (List D)) : Prop where
  ex : ∃ f, Mk K C f ∧ InD P w K mg base Γ k f n dfl g
section
variable {X : Cx} {Γ : Gm} {W : WX} {k : Nat} {c nf : Nat} {n : Nat} {dfl : List D} {g : Nat → List D → List D → Res (List D)} {x : Str} {p pos : Pos} {e : Expr} {es : List Expr} {dl : Env → Res (List D)}
def mkR (c nf : Nat) (r : Res (List D)) : Res D := r.bind fun fs => if fs.length = nf then .ok (.obj c fs) else .err
theorem mk_gr {F H F' H' : Hp} {x dx C : Addr} (sm : Same F H) (hx : H x = none) (hdx : H dx = none) (gx : GrX x F (upd (upd H dx (.own x)) x (.ins C dx [])) F' H') : Gr F H F' H' := by
  have up : ∀ p o, H p = some o → upd (upd H dx (.own x)) x (.ins C dx []) p = some o := fun p o q => by
    rw [upd_ne (ne_of_none q hx), upd_ne (ne_of_none q hdx)]; exact q
  refine ⟨gx.ff, gx.fh, fun p o q => gx.hx p o (ne_of_none q hx) (up p o q), fun p o q => ?_⟩
  rcases gx.new p o q with z | z | z
  · exact .inl z
  · refine .inr ?_
    cases e : H p with
    | none => rfl
    | some u => rw [up p u e] at z; cases z
  · exact .inr (z ▸ hx)
/-- what its promise gives a maker -/
theorem mk_sp {F H : Hp} {Q : VK} {E : XK} {vs dvs : List V} {ds : List D} {x dx : Addr} (hn : ds.length + dfl.length = n) (sm : Same F H) (rd : Reps Γ F ds vs) (hd : ∀ F, Reps Γ F dfl dvs) (hx : H x = none) (hdx : H dx = none) (ne : dx ≠ x)
    (hnf : (Γ.flds c).length = nf) (h : post Γ W σ F H (mkR c nf (g c [] (ds ++ dfl))) (kE Γ Q)) (hE : E = WE W σ) :
    spI Γ n g (.ref x :: (vs ++ dvs)) (upd (upd H dx (.own x)) x (.ins (Γ.cls c) dx [])) (fun v H2 => v = .non ∧ Q (.ref x) H2) E := by
  subst hE
  have fx : F x = none := by
    cases q : F x with
    | none => rfl
    | some o => have := sm x o q; rw [hx] at this; cases this
  have sm2 : Same F (upd (upd H dx (.own x)) x (.ins (Γ.cls c) dx [])) := fun p o q => by
    have := sm p o q
    rw [upd_ne (ne_of_none this hx), upd_ne (ne_of_none this hdx)]; exact this
  refine ⟨x, vs ++ dvs, c, [], ds ++ dfl, F, rfl, by rw [List.length_append]; exact hn, sm2, fx, ⟨dx, [], upd_same, by simp, .nil⟩, rd.append (hd F), ?_⟩
  unfold mkR at h
  cases z : g c [] (ds ++ dfl) with
  | err => rw [z] at h; exact h.elim
  | exc c' fs => rw [z] at h; exact fun F' H' d gx xd => h F' H' d (mk_gr sm hx hdx gx) xd
  | ok fs =>
    rw [z] at h
    simp only [Res.bind_ok] at h
    intro F' H' gx fx' t
    split at h
    · rename_i hl
      obtain ⟨F2, g2, r2⟩ := fresh_gr (mk_gr sm hx hdx gx) fx' hx t fun c' ds' z => by cases z; rw [hl, hnf]
      exact ⟨rfl, h F2 H' g2 _ r2⟩
    · exact h.elim
theorem run_mk (hF : MkD X.prog X.w X.K X.mg X.base Γ k (Γ.cls c) n dfl g) (hnf : (Γ.flds c).length = nf) (hr : Room (k + 1) X.A) (tk : Takes X W) {pins : List (Addr × Obj)} {σ : L2.St} {F H : Hp} {s : Shared} {Q : VK} {us : List Value} {vs : List V} {ds : List D}
    (I : Inv X pins σ H s) (r : Vals vs us) (hn : ds.length + dfl.length = n) (sm : Same F H) (rd : Reps Γ F ds vs) (h : post Γ W σ F H (mkR c nf (g c [] (ds ++ dfl))) (kE Γ Q)) : wpAny (model X.prog X.w) X.A (call (.ref (Γ.cls c)) us) (EP X pins σ Q) X.xe s := by
  obtain ⟨f, M, ⟨fd, ps, dus, dvs, F1, b, hv, hd⟩, kp⟩ := hF.ex
  have hq := mk_sp (W := W) (σ := σ) (Q := Q) hn sm rd hd (I.hok.fresh (Nat.le_succ s.heap.objs.size)) (I.hok.fresh (Nat.le_refl s.heap.objs.size)) (Nat.ne_of_lt (Nat.lt_succ_self _)) hnf h rfl
  have I2 := Inv.made (C := Γ.cls c) I
  have r2 : Vals (V.ref (s.heap.objs.size + 1) :: (vs ++ dvs)) (Value.ref (s.heap.objs.size + 1) :: (us ++ dus)) := .cons rfl (r.append hv)
  have hl : (Value.ref (s.heap.objs.size + 1) :: us ++ dus).length = ps.length := by
    have e := r2.length
    rw [F1.len _ _ _ _ hq] at e
    exact e.symm
  refine wpAny_call (make_map (f := f) I.kIn M.makes M.init (beq_iff_eq.mp M.fn) (codeAny_mono (F1.run _ X.stack _ _ ⟨Value.ref (s.heap.objs.size + 1) :: us, []⟩ (Value.ref (s.heap.objs.size + 1) :: (us ++ dus)) _ _ _ (hr.make (Γ.cls c) us [])
    (I2.env0.make (Γ.cls c) us []) (b _ (Value.ref (s.heap.objs.size + 1) :: us) I2.kIn hl) r2 hq) fun r s' hq' => ?_))
  cases r with
  | error e => exact passAt tk σ pins _ _ e s' I2 hq'
  | ok fl =>
    cases fl with
    | ret u =>
      obtain ⟨v, H', I3, rv, ev, q3⟩ := I2.after hq'
      subst ev
      exact ⟨rv, ⟨V.ref (s.heap.objs.size + 1), H', I3, rfl, q3⟩⟩
    | next => exact False.elim hq'
    | brk => exact False.elim hq'
    | cont => exact False.elim hq'
def dMake (c nf n : Nat) (dfl : List D) (g : Nat → List D → List D → Res (List D)) (dl : Env → Res (List D)) : Env → Res D := fun env => (dl env).bind fun ds => if ds.length + dfl.length = n then mkR c nf (g c [] (ds ++ dfl)) else .err
theorem e_make (hF : MkD X.prog X.w X.K X.mg X.base Γ k (Γ.cls c) n dfl g) (hnf : (Γ.flds c).length = nf) (hr : Room (k + 1) X.A) (tk : Takes X W) (hg : Gl X x) (hm : X.mg x = some (.ref (Γ.cls c)))
    (ha : PA X (e :: es) (tA Γ W dl)) (hdb : (x == ("__debug__" : Str)) = false := by decide) (he : starEach (e :: es) X.env = (false, eval e X.env) :: starEach es X.env := by rfl) (hpl : (backTo pos (starEach es X.env)).any (·.1) = false := by rfl) :
    PE X (.Call (.Name x p) (e :: es) [] pos) (tE Γ W (dMake c nf n dfl g dl)) := by
  refine ⟨fun pins s σ H Q I ⟨G, env, F, er, h⟩ => ?_⟩
  refine wpAny_Call_Name_kw (ld_glob I hg hm ?_ hdb)
  have hh := ha.run pos pins s σ H (fun vs H1 => ∃ F1 ds, ER Γ G env σ F1 H1 ∧ Reps Γ F1 ds vs ∧ post Γ W σ F1 H1 (if ds.length + dfl.length = n then mkR c nf (g c [] (ds ++ dfl)) else .err) (kE Γ Q)) I ⟨G, env, F, er, h.bind.imp fun ds F1 H1 _ g1 h1 vs r => ⟨F1, ds, er.gr g1, r, h1⟩⟩
  obtain ⟨f, M, _⟩ := hF.ex
  refine PySem.W.callWith_K (h₀ := X.base) I.ok.mod.kin M.kp (thn hh fun us s1 ⟨vs, H1, I1, r, F1, ds, er1, rd, q⟩ => ⟨I1.kIn, ?_⟩) he hpl
  split at q
  · rename_i hn
    exact run_mk hF hnf hr tk I1 r hn er1.fh rd q
  · exact q.elim
theorem e_make0 (hF : MkD X.prog X.w X.K X.mg X.base Γ k (Γ.cls c) n dfl g) (hnf : (Γ.flds c).length = nf) (hr : Room (k + 1) X.A) (tk : Takes X W) (hg : Gl X x) (hm : X.mg x = some (.ref (Γ.cls c))) (hdb : (x == ("__debug__" : Str)) = false := by decide) :
    PE X (.Call (.Name x p) [] [] pos) (tE Γ W (dMake c nf n dfl g dNil)) := by
  refine ⟨fun pins s σ H Q I ⟨G, env, F, er, h⟩ => ?_⟩
  refine wpAny_Call_Name_kw (ld_glob I hg hm ?_ hdb)
  obtain ⟨f, M, _⟩ := hF.ex
  refine PySem.W.callWith_K0 I.kIn M.kp ?_
  unfold dMake dNil at h
  simp only [Res.bind_ok] at h
  split at h
  · rename_i hn
    exact run_mk (vs := []) (ds := []) (us := []) hF hnf hr tk I .nil hn er.fh .nil h
  · exact h.elim
end

/-! ### Base.__init__(self, ..) -/
section
variable {Γ : Gm} {G : Gd} {env : Env} {σ : L2.St} {F H F' H' : Hp} {i : Nat} {a : Addr} {d d' : D}
theorem ER.killX (e : ER Γ G env σ F H) (h : env[i]? = some (.own d)) (hs : σ[i]? = some (some (.ref a))) (gx : GrX a F H F' H') : ER Γ G (env.set i .un) σ F' H' := by
  obtain ⟨x0, hx0, a', e1, fa, ba, _⟩ := e.sl i _ h
  rw [hs] at hx0; cases hx0; cases e1
  have ek := e.kill i
  refine ⟨ek.len, gx.fh, fun p o q => gx.hx p o (ne_of_none q ba) (e.bh p o q), e.f0.trans gx.ff, fun p o q => ?_, fun j s q => ?_, ek.ds, ek.me⟩
  · rcases gx.new p o q with z | z | z
    · exact e.fr p o z
    · refine .inr ?_
      cases b : G.B p with
      | none => rfl
      | some u => have := e.bh p u b; rw [z] at this; cases this
    · exact .inr (z ▸ ba)
  · by_cases hj : i = j
    · subst hj
      have hl : i < env.length := (List.getElem?_eq_some_iff.mp h).1
      rw [List.getElem?_set_self hl] at q; cases q
      exact ⟨_, hs, trivial⟩
    · rw [List.getElem?_set_ne hj] at q
      obtain ⟨x, hx, r⟩ := e.sl j s q
      refine ⟨x, hx, ?_⟩
      cases s with
      | un => trivial
      | exn c' fs' => obtain ⟨x1, d1, e2, e3, r⟩ := r; exact ⟨x1, d1, e2, e3, r.mono gx.ff⟩
      | lab _ => exact r
      | val dj => obtain ⟨v, e2, r⟩ := r; exact ⟨v, e2, r.mono gx.ff⟩
      | own dj =>
        obtain ⟨b, e2, f2, b2, t2⟩ := r
        subst e2
        have hb : b ≠ a := fun z => by subst z; exact hj (e.ds i j b d dj h q hs hx)
        refine ⟨b, rfl, ?_, b2, t2.mono gx.ff fun o => gx.hx b o hb⟩
        cases z : F' b with
        | none => rfl
        | some o =>
          rcases gx.new b o z with y | y | y
          · rw [f2] at y; cases y
          · obtain ⟨o', y'⟩ := t2.some; rw [y] at y'; cases y'
          · exact (hb y).elim
theorem ER.writeX (e : ER Γ G env σ F H) (h : env[i]? = some (.own d)) (hs : σ[i]? = some (some (.ref a))) (gx : GrX a F H F' H') (fa' : F' a = none) (t : Top Γ F' H' a d') : ER Γ G (env.set i (.own d')) σ F' H' := by
  obtain ⟨x0, hx0, a', e1, fa, ba, _⟩ := e.sl i _ h
  rw [hs] at hx0; cases hx0; cases e1
  have ek := e.killX h hs gx
  have hi : i < env.length := (List.getElem?_eq_some_iff.mp h).1
  refine ⟨by simp [e.len], ek.fh, ek.bh, ek.f0, ek.fr, fun j s q => ?_, fun j k b dj dk q1 q2 q3 q4 => ?_, fun x d0 hx q => ?_⟩
  · by_cases hj : i = j
    · subst hj
      rw [List.getElem?_set_self hi] at q; cases q
      exact ⟨_, hs, a, rfl, fa', ba, t⟩
    · rw [List.getElem?_set_ne hj] at q
      exact ek.sl j s (by rw [List.getElem?_set_ne hj]; exact q)
  · have ne : ∀ {j : Nat} {dj : D}, (env.set i (Slot.own d'))[j]? = some (Slot.own dj) → ∃ dj', env[j]? = some (Slot.own dj') := fun {j dj} q => by
      by_cases hj : i = j
      · subst hj; exact ⟨d, h⟩
      · rw [List.getElem?_set_ne hj] at q; exact ⟨dj, q⟩
    obtain ⟨_, q1⟩ := ne q1
    obtain ⟨_, q2⟩ := ne q2
    exact e.ds j k b _ _ q1 q2 q3 q4
  · by_cases h0 : i = 0
    · subst h0; exact e.me x d hx h
    · rw [List.getElem?_set_ne h0] at q; exact e.me x d0 hx q
end
/-- what a class read by its name must be -/
structure CI (K : PySem.W.Frag) (B : Addr) (mc : Value) (f : Addr) : Prop where
  rd : ClX.CRead K B mc
  at_ : PySem.W.findCls K (.ref B) mc "__init__" = some (.val (.ref f))
section
variable {X : Cx} {Γ : Gm} {W : WX} {k i : Nat} {n : Nat} {dfl : List D} {g : Nat → List D → List D → Res (List D)} {b x : Str} {p1 p2 p3 pos pos' : Pos} {e : Expr} {es : List Expr} {dl : Env → Res (List D)} {B f : Addr} {mc : Value}
/-- a call C.__init__(..) by values -/
theorem pe_super {pl : Sem Bool} {sp : Sp} {fd : FuncData} {ps : List Str} {dvs : List V} {ds : List Value} {t : TA} (ci : CI X.K B mc f) (F : FnOk X.prog X.w X.K X.mg X.base (L2.CX X.prog X.w) k f fd ps sp) (kp : PySem.W.keepIn X.K (.ref f) = true) (hr : Room k X.A) (hb : Binds X.K fd ps ds) (hd : Vals dvs ds) (tk : Takes X W)
    (hg : Gl X b) (hm : X.mg b = some (.ref B)) (ha : PA X (e :: es) t) (hdb : (b == ("__debug__" : Str)) = false := by decide)
    (hc : eval (.Call (.Attribute (.Name b p1) "__init__" p2) (e :: es) [] pos) X.env = (do
      let ov ← eval (.Name b p1) X.env
      standAt p2.atName
      let (f, first) ← holding [ov] (getMethod ov "__init__" pl)
      callWith pos f first (backTo pos (starEach (e :: es) X.env)) (backToKw pos (keywordEach [] X.env))) := by rfl)
    (he : starEach (e :: es) X.env = (false, eval e X.env) :: starEach es X.env := by rfl) (hpl : (backTo pos (starEach es X.env)).any (·.1) = false := by rfl) :
    PE X (.Call (.Attribute (.Name b p1) "__init__" p2) (e :: es) [] pos) (fun σ H Q => t σ H fun vs H1 => sp (vs ++ dvs) H1 Q (WE W σ)) := by
  refine ⟨fun pins s σ H Q I h => ?_⟩
  refine PySem.W.methodCall_KW (ld_glob I hg hm ?_ hdb) hc
  refine PySem.W.method_cls I.kIn ci.rd.ga (ClX.getcval_ok (v := .ref f) I ci.rd ⟨ci.at_, rfl⟩ fun s1 I1 => ?_)
  refine PySem.W.callWith_K (h₀ := X.base) I1.ok.mod.kin kp (thn (ha.run pos pins s1 σ H _ I1 h) fun us s2 ⟨vs, H2, I2, r, q⟩ => ⟨I2.kIn, ?_⟩) he hpl
  have r2 : Vals (vs ++ dvs) (us ++ ds) := r.append hd
  have hl : (us ++ ds).length = ps.length := by rw [← r2.length]; exact F.len _ _ _ _ q
  refine wpAny_call (codeAny_mono (F.run X.A X.stack s2 H2 ⟨us, []⟩ (us ++ ds) (vs ++ dvs) Q (WE W σ) hr I2.env0 (hb s2 us I2.kIn hl) r2 q) fun r s' hq => ?_)
  cases r with
  | error e => exact passAt tk σ pins H2 s2 e s' I2 hq
  | ok fl =>
    cases fl with
    | ret u => exact I2.after hq
    | next => exact False.elim hq
    | brk => exact False.elim hq
    | cont => exact False.elim hq
/-- Base.__init__(self, ..), self the own object of slot i -/
def dSup (i n : Nat) (dfl : List D) (g : Nat → List D → List D → Res (List D)) (dl : Env → Res (List D)) : Env → Out := fun env => match env[i]? with
  | some (.own (.obj c ds0)) => match dl env with
    | .ok ds => if ds.length + dfl.length = n then match g c ds0 (ds ++ dfl) with
      | .ok ds' => .nx (env.set i (.own (.obj c ds')))
      | .exc c' fs => .exc (env.set i .un) c' fs
      | .err => .err
      else .err
    | .exc c fs => .exc env c fs
    | .err => .err
  | _ => .err
theorem s_super {pl : Sem Bool} (hF : InD X.prog X.w X.K X.mg X.base Γ k f n dfl g) (ci : CI X.K B mc f) (hr : Room k X.A) (tk : Takes X W) (hg : Gl X b) (hm : X.mg b = some (.ref B)) (hp : PE X (.Name x p3) (tVar i)) (ha : PA X es (tA Γ W dl)) (hdb : (b == ("__debug__" : Str)) = false := by decide)
    (hc : eval (.Call (.Attribute (.Name b p1) "__init__" p2) (.Name x p3 :: es) [] pos) X.env = (do
      let ov ← eval (.Name b p1) X.env
      standAt p2.atName
      let (f, first) ← holding [ov] (getMethod ov "__init__" pl)
      callWith pos f first (backTo pos (starEach (.Name x p3 :: es) X.env)) (backToKw pos (keywordEach [] X.env))) := by rfl)
    (he : starEach (.Name x p3 :: es) X.env = (false, eval (.Name x p3) X.env) :: starEach es X.env := by rfl) (hpl : (backTo pos (starEach es X.env)).any (·.1) = false := by rfl)
    (hsw : swapsWith (.Call (.Attribute (.Name b p1) "__init__" p2) (.Name x p3 :: es) [] pos) none pos'.line X.env = pure false := by rfl) :
    PS X (.Expr (.Call (.Attribute (.Name b p1) "__init__" p2) (.Name x p3 :: es) [] pos) pos') (tS Γ W (dSup i n dfl g dl)) := by
  obtain ⟨fd, ps, dus, dvs, F1, bb, hv, hd⟩ := hF.ex
  refine PS.w (ps_expr (pe_super (W := W) ci F1 hF.kp hr bb hv tk hg hm (pa_cons hp ha he) hdb hc he hpl) hsw) fun Dd σ H ⟨G, env, F, er, q⟩ => ?_
  unfold dSup at q
  split at q
  · rename_i c ds0 hown
    obtain ⟨a, hσ, fa, ta⟩ := own_at er hown
    refine ⟨.ref a, hσ, G, env, F, er, ?_⟩
    cases z0 : dl env with
    | err => rw [z0] at q; exact q.elim
    | exc c fs => rw [z0] at q; exact fun F' H' d g x => q σ F' H' d g.ff (er.gr g) x
    | ok ds =>
      rw [z0] at q
      simp only at q
      intro F1 H1 g1 vs rd
      have er1 := er.gr g1
      obtain ⟨a', hσ', fa1, ta1⟩ := own_at er1 hown
      rw [hσ] at hσ'; cases hσ'
      split at q
      · rename_i hn
        refine ⟨a, vs ++ dvs, c, ds0, ds ++ dfl, F1, rfl, by rw [List.length_append]; exact hn, er1.fh, fa1, ta1, rd.append (hd F1), ?_⟩
        cases z : g c ds0 (ds ++ dfl) with
        | err => rw [z] at q; exact q.elim
        | exc c' fs => rw [z] at q; exact fun F' H' d gx xd => q σ F' H' d (g1.ff.trans gx.ff) (er1.killX hown hσ gx) xd
        | ok ds' => rw [z] at q; exact fun F' H' gx fx t => q σ F' H' (g1.ff.trans gx.ff) (er1.writeX hown hσ gx fx t)
      · exact q.elim
  · exact q.elim

/-! ### methods -/
/-- the method m of the class c -/
structure MeD (P : Program) (w : World) (K : PySem.W.Frag) (mg : Str → Option Value) (base : Heap) (Γ : Gm) (k : Nat) (m : Str) (n : Nat) (dfl : List D) (c : Nat) (g : List D → Res D) : Prop where
  cl : Cls K (Γ.cls c)
  nf : fIx (Γ.flds c) m = none
  ex : ∃ f, Meth K (Γ.cls c) m f ∧ FnD P w K mg base Γ k f n dfl g
def dMeth (n : Nat) (dfl : List D) (tab : List (Nat × (List D → Res D))) (da : Env → Res D) (dl : Env → Res (List D)) : Env → Res D := fun env => (da env).bind fun d => match d with
  | .obj c fs => match tab.lookup c with
    | some g => (dl env).bind fun ds => if (ds.length + 1) + dfl.length = n then g (.obj c fs :: (ds ++ dfl)) else .err
    | none => .err
  | _ => .err
variable {o : Expr} {m : Str} {apos : Pos} {tab : List (Nat × (List D → Res D))} {da : Env → Res D}
theorem e_meth {pl : Sem Bool} (hT : ∀ q ∈ tab, MeD X.prog X.w X.K X.mg X.base Γ k m n dfl q.1 q.2) (hr : Room k X.A) (tk : Takes X W) (ho : PE X o (tE Γ W da)) (ha : PA X (e :: es) (tA Γ W dl))
    (hst : starEach (e :: es) X.env = (false, eval e X.env) :: starEach es X.env := by rfl) (hpl : (backTo pos (starEach es X.env)).any (·.1) = false := by rfl)
    (ht : eval (.Call (.Attribute o m apos) (e :: es) [] pos) X.env = (do
      let ov ← eval o X.env
      standAt apos.atName
      let (f, first) ← holding [ov] (getMethod ov m pl)
      callWith pos f first (backTo pos (starEach (e :: es) X.env)) (backToKw pos (keywordEach [] X.env))) := by rfl) :
    PE X (.Call (.Attribute o m apos) (e :: es) [] pos) (tE Γ W (dMeth n dfl tab da dl)) := by
  refine ⟨fun pins s σ H Q I ⟨G, env, F, er, h⟩ => ?_⟩
  have hh := ho.run pins s σ H (fun v H1 => ∃ F1 d, ER Γ G env σ F1 H1 ∧ Rep Γ F1 d v ∧ post Γ W σ F1 H1 (match d with
    | .obj c fs => match tab.lookup c with
      | some g => (dl env).bind fun ds => if (ds.length + 1) + dfl.length = n then g (.obj c fs :: (ds ++ dfl)) else .err
      | none => .err
    | _ => .err) (kE Γ Q)) I ⟨G, env, F, er, h.bind.imp fun d F1 H1 _ g1 h1 v r => ⟨F1, d, er.gr g1, r, h1⟩⟩
  refine PySem.W.methodCall_KW (pl := pl) (thn hh fun u s1 ⟨v, H1, I1, rv, F1, d, er1, rd, q⟩ => ?_) ht
  cases d with
  | obj c fs => ?_
  | _ => exact q.elim
  simp only at q
  cases z : tab.lookup c with
  | none => rw [z] at q; exact q.elim
  | some g =>
    rw [z] at q
    simp only at q
    have T := hT _ (lookup_mem z)
    obtain ⟨f, M, FD⟩ := T.ex
    obtain ⟨a, dx, gs, rfl, hq, hl, rr⟩ := RepT.obj (Γ := Γ) er1.fh (.inl rd)
    obtain rfl : u = Value.ref a := rv
    refine getmeth_ok I1 hq T.cl M (fIx_none hl T.nf) ?_
    have hh2 := ha.run pos pins s1 σ H1 (fun vs H2 => ∃ F2 ds, ER Γ G env σ F2 H2 ∧ Reps Γ F2 ds vs ∧ Rep Γ F2 (.obj c fs) (.ref a) ∧ post Γ W σ F2 H2 (if (ds.length + 1) + dfl.length = n then g (.obj c fs :: (ds ++ dfl)) else .err) (kE Γ Q)) I1
      ⟨G, env, F1, er1, q.bind.imp fun ds F2 H2 _ g2 h2 vs r => ⟨F2, ds, er1.gr g2, r, rd.mono g2.ff, h2⟩⟩
    refine PySem.W.callWith_K (first := [.ref a]) (h₀ := X.base) I1.ok.mod.kin M.kp (thn hh2 fun us s2 ⟨vs, H2, I2, r, F2, ds, er2, rds, rs, q2⟩ => ⟨I2.kIn, ?_⟩) hst hpl
    split at q2
    · rename_i hn
      exact run_fd (us := .ref a :: us) (vs := .ref a :: vs) (ds := .obj c fs :: ds) FD hr tk I2 (.cons rfl r) (by simpa using hn) er2.fh (.cons rs rds) q2
    · exact q2.elim
theorem e_meth0 {pl : Sem Bool} (hT : ∀ q ∈ tab, MeD X.prog X.w X.K X.mg X.base Γ k m n dfl q.1 q.2) (hr : Room k X.A) (tk : Takes X W) (ho : PE X o (tE Γ W da))
    (ht : eval (.Call (.Attribute o m apos) [] [] pos) X.env = (do
      let ov ← eval o X.env
      standAt apos.atName
      let (f, first) ← holding [ov] (getMethod ov m pl)
      callWith pos f first (backTo pos (starEach [] X.env)) (backToKw pos (keywordEach [] X.env))) := by rfl) :
    PE X (.Call (.Attribute o m apos) [] [] pos) (tE Γ W (dMeth n dfl tab da dNil)) := by
  refine ⟨fun pins s σ H Q I ⟨G, env, F, er, h⟩ => ?_⟩
  have hh := ho.run pins s σ H (fun v H1 => ∃ F1 d, ER Γ G env σ F1 H1 ∧ Rep Γ F1 d v ∧ post Γ W σ F1 H1 (match d with
    | .obj c fs => match tab.lookup c with
      | some g => (dNil env).bind fun ds => if (ds.length + 1) + dfl.length = n then g (.obj c fs :: (ds ++ dfl)) else .err
      | none => .err
    | _ => .err) (kE Γ Q)) I ⟨G, env, F, er, h.bind.imp fun d F1 H1 _ g1 h1 v r => ⟨F1, d, er.gr g1, r, h1⟩⟩
  refine PySem.W.methodCall_KW (pl := pl) (thn hh fun u s1 ⟨v, H1, I1, rv, F1, d, er1, rd, q⟩ => ?_) ht
  cases d with
  | obj c fs => ?_
  | _ => exact q.elim
  simp only at q
  cases z : tab.lookup c with
  | none => rw [z] at q; exact q.elim
  | some g =>
    rw [z] at q
    simp only [dNil, Res.bind_ok] at q
    have T := hT _ (lookup_mem z)
    obtain ⟨f, M, FD⟩ := T.ex
    obtain ⟨a, dx, gs, rfl, hq, hl, rr⟩ := RepT.obj (Γ := Γ) er1.fh (.inl rd)
    obtain rfl : u = Value.ref a := rv
    refine getmeth_ok I1 hq T.cl M (fIx_none hl T.nf) ?_
    refine PySem.W.callWith_K0 (first := [.ref a]) I1.kIn M.kp ?_
    split at q
    · rename_i hn
      exact run_fd (us := [.ref a]) (vs := [.ref a]) (ds := [.obj c fs]) FD hr tk I1 (.cons rfl .nil) (by simpa using hn) er1.fh (.cons rd .nil) q
    · exact q.elim

/-! ### isinstance by own classes -/
structure IsO (K : PySem.W.Frag) (Γ : Gm) (C : Addr) (c : Nat) (b : Bool) : Prop where
  cl : Cls K (Γ.cls c)
  ha : PySem.W.findIn K (.ref (Γ.cls c)) "__class__" = some (some (.builtin "object.__class__"))
  hn : PySem.W.specialIn K (.builtin "object.__class__") "__get__" = some (some (.builtin "getset_descriptor.__get__"))
  ht : PySem.W.takesIn K (.builtin "object.__class__") = some true
  hm : PySem.W.mroIn K (Γ.cls c) (.type "object") = some true
  ko : PySem.W.kitOne K (.ref (Γ.cls c)) (.ref C) = some b
def bIsO (tab : List (Nat × Bool)) : D → Option D
  | .obj c _ => (tab.lookup c).map .bl
  | _ => none
theorem e_isO {C : Addr} {y : Str} {tab : List (Nat × Bool)} (hk : Γ.K = X.K) (hg : Gl X "isinstance") (hm : X.mg "isinstance" = none) (ha : PE X e (tW Γ W da)) (hg2 : Gl X y) (hm2 : X.mg y = some (.ref C)) (hT : ∀ q ∈ tab, IsO X.K Γ C q.1 q.2) (hdb : (y == ("__debug__" : Str)) = false := by decide)
    (hs : starEach [e, .Name y p2] X.env = (false, eval e X.env) :: starEach [.Name y p2] X.env := by rfl) (hpl : (backTo pos (starEach [.Name y p2] X.env)).any (·.1) = false := by rfl) (hs2 : starEach [.Name y p2] X.env = (false, eval (.Name y p2) X.env) :: starEach [] X.env := by rfl) :
    PE X (.Call (.Name "isinstance" p1) [e, .Name y p2] [] pos) (tE Γ W (dUn (bIsO tab) da)) :=
  PE.w (pe_callB call_isi hg hm (by decide +kernel) (pa_cons ha (pa_cons (pe_glob (v := .ref C) hg2 hm2 rfl hdb) pa_nil hs2) hs) (by decide) (by decide) hs hpl) fun σ H Q ⟨G, env, F, er, h⟩ => by
  refine ⟨G, env, F, er, h.bind.imp fun d F1 H1 _ g1 h1 v r => ?_⟩
  have er1 := er.gr g1
  cases d with
  | obj c fs => ?_
  | _ => exact h1.elim
  unfold bIsO at h1
  simp only at h1
  cases z : tab.lookup c with
  | none => rw [z] at h1; exact h1.elim
  | some b =>
    rw [z] at h1
    have T := hT _ (lookup_mem z)
    obtain ⟨a, dx, gs, rfl, hq, hl, rr⟩ := r.obj er1.fh
    exact ⟨.ref a, .ref C, .ref (Γ.cls c), .ref C, b, rfl, .own C, .base (.ins hq T.cl T.ha T.hn T.ht T.hm), T.ko, h1.ok er1 _ rep_bl⟩
end
end Dn

/-! Den15.lean -/
namespace Dn
open PySem PySem.Spec PyProof.Rows L2

/-! ### raise -/
section
variable {X : Cx} {Γ : Gm} {W : WX} {k c : Nat} {x m f : Str} {j : Nat} {p p2 pos : Pos} {e : Expr} {es : List Expr} {da : Env → Res D}
def veB : List Value := [.type "ValueError", .type "Exception", .type "BaseException", .type "object"]
def dRaise0 (c : Nat) : Env → Out := fun env => .exc env c none
/-- raise C('text') of a class without __init__ -/
theorem s_raise0 {pos2 : Pos} (hc : X.calm = true) (tk : Takes X W) (q : PySem.W.excIn X.K (Γ.cls c) veB "ValueError.__new__" = true) (gC : X.mg x = some (.ref (Γ.cls c))) (kC : PySem.W.keepIn X.K (.ref (Γ.cls c)) = true)
    (h1 : PySem.W.subIn X.K (.ref (Γ.cls c)) (.type "BaseException") = some true) (h2 : PySem.W.typeIn X.K (.ref (Γ.cls c)) = some (.type "type")) (hg : Gl X x) (hdb : (x == ("__debug__" : Str)) = false := by decide) :
    PS X (.Raise (some (.Call (.Name x p) [.Constant (.str m) j p2] [] pos)) none pos2) (tS Γ W (dRaise0 c)) :=
  PS.w (ps_raise hc tk (pmk_own PySem.F.excBase_ValueError q gC kC (raises_own h1 h2) hg hdb)) fun Dd σ H ⟨G, env, F, er, q⟩ => q σ F H none (Same.refl _) er rfl
/-- what the __init__ of an exception with one field promises -/
def spX (cs : List Addr) (f : Str) : Sp := fun vs H Q E => ∃ a C y, vs = [.ref a, y] ∧ C ∈ cs ∧ H a = some (exo a C none) ∧ ∀ dx, H dx = none → dx ≠ a → Q .non (upd (upd H dx (exd dx [(f, y)])) a (exo a C (some dx)))
/-- CallError.__init__(self, 'text'), CallError without __init__ of its own -/
structure CV (K : PySem.W.Frag) (B : Addr) (mc : Value) : Prop where
  rd : ClX.CRead K B mc
  at_ : PySem.W.findCls K (.ref B) mc "__init__" = some (.val (.builtin "ValueError.__init__"))
theorem pe_veinitC {b : Str} {B : Addr} {mc : Value} {ta : TA} {p1 : Pos} {pl : Sem Bool} (ci : CV X.K B mc) (hg : Gl X b) (hm : X.mg b = some (.ref B)) (ha : PA X (e :: es) ta) (hdb : (b == ("__debug__" : Str)) = false := by decide)
    (hc : eval (.Call (.Attribute (.Name b p1) "__init__" p2) (e :: es) [] pos) X.env = (do
      let ov ← eval (.Name b p1) X.env
      standAt p2.atName
      let (f, first) ← holding [ov] (getMethod ov "__init__" pl)
      callWith pos f first (backTo pos (starEach (e :: es) X.env)) (backToKw pos (keywordEach [] X.env))) := by rfl)
    (he : starEach (e :: es) X.env = (false, eval e X.env) :: starEach es X.env := by rfl) (hpl : (backTo pos (starEach es X.env)).any (·.1) = false := by rfl) :
    PE X (.Call (.Attribute (.Name b p1) "__init__" p2) (e :: es) [] pos) (tVeI X.K ta) := by
  refine ⟨fun pins s σ H Q I h => ?_⟩
  refine PySem.W.methodCall_KW (ld_glob I hg hm ?_ hdb) hc
  refine PySem.W.method_cls I.kIn ci.rd.ga (PySem.W.cls_value I.kIn ci.rd.rd ci.at_ rfl ?_)
  show wpAny _ _ (callWith pos (Value.builtin "ValueError.__init__") [] (backTo pos (starEach (e :: es) X.env)) []) _ _ _
  refine PyProof.Rows.callWith_method1 (thn (ha.run pos pins _ σ H _ (I.tok _) h) fun us s1 ⟨vs, H1, I1, r1, a, C, ws, ev, hl, T, ea, q⟩ => ?_) he hpl
  subst ev
  cases r1 with
  | @cons _ u0 _ ur ra rw' =>
    obtain rfl : u0 = Value.ref a := ra
    have hlen : ur.length ≤ sizeLine := by
      rw [← Paired.length rw', sizeLine_eq]
      omega
    exact oinit_ok T I1 ea hlen fun s' J => ⟨.non, H1, J, rfl, q⟩
end
section
variable {P : Program} {w : World} {K : PySem.W.Frag} {mg : Str → Option Value} {base : Heap}
theorem xinit_ok {x qual f m : Str} {st : Stmt} {fa : Addr} {fd : FuncData} {N ps : List Str} {k : Nat} {cs : List Addr} (F : Fun K x qual st fa fd) (S : FnScope N ps (defScope st)) (hn : ps.length = 2)
    (hT : ∀ C ∈ cs, OexC K C ∧ PySem.W.findIn K (.ref C) f = some none)
    (body : ∀ (cdv : Value) (A : Around) (outer : List PySem.Env) (s : Shared) (H : Hp) (E : XK), Room k (A.deeper (envOfC qual (defScope st) s.heap.objs.size fa cdv)) →
      PSs (cxOf (L2.CX P w) P w K mg base N qual (defScope st) fa cdv A outer s H E) (defBody st) (tSeq (tDrop (tVeI K (tCons (tVar 0) (tCons (tC (.str m)) tNil)))) (tOst K f (tVar 0) (tVar 1)))) :
    FnOk P w K mg base (L2.CX P w) (k + 1) fa fd ps (spX cs f) := by
  refine F.okX S (fun vs H Q E ⟨a, C, y, e, _⟩ => by rw [e, hn]; rfl) (fun cdv A outer s H vs Q E hr h => ⟨_, body cdv A outer s H E hr, ?_⟩)
  obtain ⟨a, C, y, rfl, hC, ha, q⟩ := h
  obtain ⟨T, hno⟩ := hT C hC
  refine ⟨.ref a, rfl, ?_⟩
  refine ⟨a, C, [.str m], rfl, by simp, T, ha, ?_⟩
  refine ⟨y, rfl, .ref a, rfl, a, C, rfl, T, hno, .inl ⟨ha, fun dx h1 h2 => q dx h1 h2⟩⟩
end
section
variable {X : Cx} {Γ : Gm} {W : WX} {k c : Nat} {x f : Str} {p p2 pos pos2 : Pos} {e : Expr} {es : List Expr} {da : Env → Res D} {cs : List Addr}
/-- an exception class with an __init__ of one argument, kept in f -/
structure XcD (P : Program) (w : World) (K : PySem.W.Frag) (mg : Str → Option Value) (base : Heap) (k : Nat) (C : Addr) (f : Str) : Prop where
  ox : OexC K C
  ex : ∃ fI fd ps cs, FnOk P w K mg base (L2.CX P w) k fI fd ps (spX cs f) ∧ Binds K fd ps [] ∧ C ∈ cs ∧ PySem.W.findIn K (.ref C) "__init__" = some (some (.ref fI)) ∧ PySem.W.typeIn K (.ref fI) = some (.type "function")
def dRaise1 (c : Nat) (da : Env → Res D) : Env → Out := fun env => match da env with
  | .ok d => .exc env c (some [d])
  | .exc c fs => .exc env c fs
  | .err => .err
theorem s_raise1 (hc : X.calm = true) (tk : Takes X W) (hX : XcD X.prog X.w X.K X.mg X.base k (Γ.cls c) f) (hfl : Γ.flds c = [f]) (hr : Room (k + 1) X.A) (hx : Passes (L2.CX X.prog X.w) X (fun _ _ _ => False)) (hg : Gl X x) (hm : X.mg x = some (.ref (Γ.cls c))) (ha : PE X e (tE Γ W da))
    (hdb : (x == ("__debug__" : Str)) = false := by decide) (he : starEach [e] X.env = (false, eval e X.env) :: starEach [] X.env := by rfl) :
    PS X (.Raise (some (.Call (.Name x p) [e] [] pos)) none pos2) (tS Γ W (dRaise1 c da)) := by
  obtain ⟨fI, fd, ps, cs, F1, hb, hC, iC, tI⟩ := hX.ex
  refine PS.w (ps_raise hc tk (pmk_oex hX.ox iC tI F1 hr hb .nil hx hg hm (pa_cons ha pa_nil he) hdb he rfl)) fun Dd σ H ⟨G, env, F, er, q⟩ => ?_
  refine ⟨G, env, F, er, ?_⟩
  unfold dRaise1 at q
  cases z : da env with
  | err => rw [z] at q; exact q.elim
  | exc c fs => rw [z] at q; exact fun F' H' d g x => q σ F' H' d g.ff (er.gr g) x
  | ok d =>
    rw [z] at q
    intro F1 H1 g1 y ry
    have er1 := er.gr g1
    refine ⟨by simp, fun a hna => ⟨a, _, y, rfl, hC, upd_same, fun dx hdx ne => ⟨rfl, dx, [(f, y)], upd_same, by rw [upd_ne ne, upd_same], ?_, ?_⟩⟩⟩
    · rw [upd_ne ne] at hdx; exact hdx
    · rw [upd_ne ne] at hdx
      have fdx : F1 dx = none := by
        cases z : F1 dx with
        | none => rfl
        | some o => have := er1.fh dx o z; rw [hdx] at this; cases this
      have sf : Same F1 (upd F1 dx (.xd [(f, y)])) := fun b u q => by rw [upd_ne (ne_of_none q fdx)]; exact q
      have hh : ∀ b o, H1 b = some o → (upd (del (upd (upd (upd H1 a (exo a (Γ.cls c) none)) dx (exd dx [(f, y)])) a (exo a (Γ.cls c) (some dx))) a) dx (.xd [(f, y)])) b = some o := fun b o q => by
        have n1 : b ≠ a := ne_of_none q hna
        have n2 : b ≠ dx := ne_of_none q hdx
        rw [upd_ne n2, del_ne n1, upd_ne n1, upd_ne n2, upd_ne n1]; exact q
      have g2 : Gr F1 H1 (upd F1 dx (.xd [(f, y)])) (upd (del (upd (upd (upd H1 a (exo a (Γ.cls c) none)) dx (exd dx [(f, y)])) a (exo a (Γ.cls c) (some dx))) a) dx (.xd [(f, y)])) := by
        refine ⟨sf, fun b u q => ?_, hh, fun b u q => ?_⟩
        · by_cases hb : b = dx
          · subst hb; rw [upd_same] at q ⊢; exact q
          · rw [upd_ne hb] at q; exact hh b u (er1.fh b u q)
        · by_cases hb : b = dx
          · subst hb; exact .inr hdx
          · rw [upd_ne hb] at q; exact .inl q
      exact q σ _ _ (some dx) (g1.ff.trans sf) (er1.gr g2) ⟨dx, [(f, y)], rfl, upd_same, by rw [hfl]; rfl, .cons (ry.mono sf) .nil⟩
end

/-! ### except suites -/
mutual
theorem Rep.xa {Γ : Gm} {q : Option (Addr × Value × Option Addr)} {F : Hp} : ∀ (d : D) (v : V), Rep { Γ with xa := q } F d v ↔ Rep Γ F d v
  | .non, _ => by rw [Rep, Rep]
  | .bl _, _ => by rw [Rep, Rep]
  | .int _, _ => by rw [Rep, Rep]
  | .str _, _ => by rw [Rep, Rep]
  | .ty _, _ => by rw [Rep, Rep]
  | .cl _, _ => by rw [Rep, Rep]
  | .scr _, _ => by rw [Rep, Rep]
  | .lst ds, _ => by rw [Rep, Rep]; simp only [Reps.xa ds]
  | .tup ds, _ => by rw [Rep, Rep]; simp only [Reps.xa ds]
  | .obj c ds, _ => by rw [Rep, Rep]; simp only [Reps.xa ds]
  | .dic ks ds, _ => by rw [Rep, Rep]; simp only [Reps.xa ds]
theorem Reps.xa {Γ : Gm} {q : Option (Addr × Value × Option Addr)} {F : Hp} : ∀ (ds : List D) (vs : List V), Reps { Γ with xa := q } F ds vs ↔ Reps Γ F ds vs
  | [], _ => by rw [Reps, Reps]
  | d :: ds, _ => by rw [Reps, Reps]; simp only [Rep.xa d, Reps.xa ds]
end
def Gm.at (Γ : Gm) (q : Option (Addr × Value × Option Addr)) : Gm := { Γ with xa := q }
section
variable {Γ : Gm} {q : Option (Addr × Value × Option Addr)} {F H B : Hp}
theorem Top.xa {a : Addr} : ∀ {d : D}, Top (Γ.at q) F H a d ↔ Top Γ F H a d
  | .lst ds => by unfold Top Gm.at; simp only [Reps.xa]
  | .obj c ds => by unfold Top Gm.at; simp only [Reps.xa]
  | .dic ks ds => by unfold Top Gm.at; simp only [Reps.xa]
  | .non => Iff.rfl
  | .bl _ => Iff.rfl
  | .int _ => Iff.rfl
  | .str _ => Iff.rfl
  | .ty _ => Iff.rfl
  | .cl _ => Iff.rfl
  | .scr _ => Iff.rfl
  | .tup _ => Iff.rfl
theorem XD.xa {c : Nat} {d : Option Addr} : ∀ {fs : Option (List D)}, XD (Γ.at q) F c fs d ↔ XD Γ F c fs d
  | none => Iff.rfl
  | some ds => by unfold XD Gm.at; simp only [Reps.xa]
/-- no slot of it is a caught exception -/
def noExn (env : Env) : Prop := ∀ (i : Nat) c fs, env[i]? ≠ some (Slot.exn c fs)
theorem ER.xa {G : Gd} {env : Env} {σ : L2.St} (e : ER Γ G env σ F H) (h : noExn env) : ER (Γ.at q) G env σ F H :=
  ⟨e.len, e.fh, e.bh, e.f0, e.fr, fun i s z => by
    obtain ⟨x, hx, r⟩ := e.sl i s z
    refine ⟨x, hx, ?_⟩
    cases s with
    | un => trivial
    | val d => obtain ⟨v, e1, r⟩ := r; exact ⟨v, e1, (Rep.xa d v).mpr r⟩
    | own d => obtain ⟨a, e1, f, b, t⟩ := r; exact ⟨a, e1, f, b, Top.xa.mpr t⟩
    | lab n => exact r
    | exn c fs => exact (h i c fs z).elim, e.ds, e.me⟩
theorem ER.unxa {G : Gd} {env : Env} {σ : L2.St} (e : ER (Γ.at q) G env σ F H) (h : noExn env) : ER Γ G env σ F H :=
  ⟨e.len, e.fh, e.bh, e.f0, e.fr, fun i s z => by
    obtain ⟨x, hx, r⟩ := e.sl i s z
    refine ⟨x, hx, ?_⟩
    cases s with
    | un => trivial
    | val d => obtain ⟨v, e1, r⟩ := r; exact ⟨v, e1, (Rep.xa d v).mp r⟩
    | own d => obtain ⟨a, e1, f, b, t⟩ := r; exact ⟨a, e1, f, b, Top.xa.mp t⟩
    | lab n => exact r
    | exn c fs => exact (h i c fs z).elim, e.ds, e.me⟩
end
end Dn

/-! Den16.lean -/
namespace Dn
open PySem PySem.Spec PyProof.Rows L2

theorem ER.setS {Γ : Gm} {G : Gd} {env : Env} {σ : L2.St} {F H : Hp} (e : ER Γ G env σ F H) (i : Nat) {s : Slot} {x : Option V} (hs : ∀ d, s ≠ .own d) (r : SRep Γ F H G x s) : ER Γ G (env.set i s) (σ.set i x) F H := by
  have ne : ∀ {j dj}, (env.set i s)[j]? = some (.own dj) → i ≠ j ∧ env[j]? = some (.own dj) := fun {j dj} q => by
    by_cases hj : i = j
    · subst hj
      have hl : i < env.length := by
        have := (List.getElem?_eq_some_iff.mp q).1
        simpa using this
      rw [List.getElem?_set_self hl] at q; cases q
      exact (hs dj rfl).elim
    · rw [List.getElem?_set_ne hj] at q; exact ⟨hj, q⟩
  refine ⟨by simp [e.len], e.fh, e.bh, e.f0, e.fr, fun j s' q => ?_, fun j k a dj dk q1 q2 q3 q4 => ?_, fun y d0 hx q => ?_⟩
  · by_cases hj : i = j
    · subst hj
      have hl : i < env.length := by
        have := (List.getElem?_eq_some_iff.mp q).1
        simpa using this
      rw [List.getElem?_set_self hl] at q; cases q
      exact ⟨x, by rw [List.getElem?_set_self (by rw [e.len]; exact hl)], r⟩
    · rw [List.getElem?_set_ne hj] at q
      obtain ⟨x, a, b⟩ := e.sl j s' q
      exact ⟨x, by rw [List.getElem?_set_ne hj]; exact a, b⟩
  · obtain ⟨n1, q1⟩ := ne q1
    obtain ⟨n2, q2⟩ := ne q2
    rw [List.getElem?_set_ne n1] at q3
    rw [List.getElem?_set_ne n2] at q4
    exact e.ds j k a dj dk q1 q2 q3 q4
  · obtain ⟨n0, q⟩ := ne q
    rw [List.getElem?_set_ne n0]; exact e.me y d0 hx q
/-- a caught exception is forgotten -/
def unx : Slot → Slot
  | .exn _ _ => .un
  | s => s
def strip (env : Env) : Env := env.map unx
theorem ER.strip {Γ : Gm} {G : Gd} {env : Env} {σ : L2.St} {F H : Hp} (e : ER Γ G env σ F H) : ER Γ G (Dn.strip env) σ F H := by
  have up : ∀ {j : Nat} {s : Slot}, (Dn.strip env)[j]? = some s → ∃ s0, env[j]? = some s0 ∧ s = unx s0 := fun {j s} q => by
    unfold Dn.strip at q
    rw [List.getElem?_map] at q
    cases z : env[j]? with
    | none => rw [z] at q; cases q
    | some s0 => rw [z] at q; cases q; exact ⟨s0, rfl, rfl⟩
  have own : ∀ {j : Nat} {d : D}, (Dn.strip env)[j]? = some (Slot.own d) → env[j]? = some (Slot.own d) := fun {j d} q => by
    obtain ⟨s0, z, e⟩ := up q
    cases s0 <;> first | (cases e; exact z) | cases e
  refine ⟨by simp [Dn.strip, e.len], e.fh, e.bh, e.f0, e.fr, fun j s q => ?_, fun j k a dj dk q1 q2 => e.ds j k a dj dk (own q1) (own q2), fun y d0 hx q => e.me y d0 hx (own q)⟩
  obtain ⟨s0, z, rfl⟩ := up q
  obtain ⟨x, hx, r⟩ := e.sl j s0 z
  refine ⟨x, hx, ?_⟩
  cases s0 with
  | exn c fs => trivial
  | un => exact r
  | val d => exact r
  | own d => exact r
  | lab n => exact r
theorem noExn_strip (env : Env) : noExn (strip env) := fun i c fs q => by
  unfold strip at q
  rw [List.getElem?_map] at q
  cases z : env[i]? with
  | none => rw [z] at q; cases q
  | some s0 => rw [z] at q; cases s0 <;> cases q

/-- behind a suite: slot i is unbound -/
def outS (f : Env → Env) : Out → Out
  | .nx e => .nx (f e)
  | .bk e => .bk (f e)
  | .ct e => .ct (f e)
  | .ret d => .ret d
  | _ => .err
def dTryAs (tab : List (Nat × Bool)) (i : Nat) (body suite : Env → Out) : Env → Out := fun env => match body env with
  | .exc e c fs => match tab.lookup c with
    | some true => outS (fun e => strip (e.set i .un)) (suite ((strip e).set i (.exn c fs)))
    | some false => .exc e c fs
    | none => .err
  | o => o
def dTryO (tab : List (Nat × Bool)) (body suite : Env → Out) : Env → Out := fun env => match body env with
  | .exc e c fs => match tab.lookup c with
    | some true => outS id (suite e)
    | some false => .exc e c fs
    | none => .err
  | o => o
section
variable {X : Cx} {Γ : Gm} {W : WX} {x n : Str} {i : Nat} {body suite : List Stmt} {b₀ : Stmt} {np pos pos' : Pos} {tab : List (Nat × Bool)} {bden sden : Env → Out} {cv : Value}
theorem s_try_as (hs : X.stack = X.env :: X.outer) (hf : X.env.frame = some X.env.locals) (hN : X.N.Nodup) (hi : X.N[i]? = some n) (hln : X.env.kindOf n = some .local) (hc : Names X x cv) (tk : Takes X W)
    (hT : ∀ q ∈ tab, PySem.W.exmOne X.K (.ref (Γ.cls q.1)) cv = some q.2)
    (hb : ∀ (W : WX) (pn : List (Addr × Obj)) (xe : Value → Shared → Prop), Takes (X.tr pn xe) W → PassesOwn (model X.prog X.w) X.A X.env xe → PSs (X.tr pn xe) body (tS Γ W bden))
    (hsu : ∀ (a : Addr) (oe : Obj) (cls : Value) (d : Option Addr) (pn : List (Addr × Obj)), Zc cls d oe → (∃ vs, oe.data = .fields vs) → PSs (X.suite a ((a, oe) :: pn)) (b₀ :: suite) (tS (Γ.at (some (a, cls, d))) W0 sden)) :
    PS X (.Try body [.ExceptHandler (some (.Name x np)) (some n) (b₀ :: suite) pos'] [] [] pos) (tS Γ W (dTryAs tab i bden sden)) :=
  PS.w (ps_try_as (tb := fun W => tS Γ W bden) (ts := fun a cls d => tS (Γ.at (some (a, cls, d))) W0 sden) hs hf hN hi hln hc tk hb hsu) fun Dd σ H ⟨G, env, F, er, q⟩ => by
  refine ⟨G, env, F, er, ?_⟩
  unfold dTryAs at q
  cases z : bden env with
  | nx e => rw [z] at q; exact q
  | ret d => rw [z] at q; exact q
  | bk e => rw [z] at q; exact q
  | ct e => rw [z] at q; exact q
  | err => rw [z] at q; exact q
  | exc e c fs =>
    rw [z] at q
    simp only at q
    intro σ' F' H' d sF er' xd
    cases z2 : tab.lookup c with
    | none => rw [z2] at q; exact q.elim
    | some b =>
      rw [z2] at q
      refine ⟨b, hT _ (lookup_mem z2), fun hb' a hna => ?_, fun hb' => ?_⟩
      · subst hb'
        have er2 := (er'.strip.xa (q := some (a, .ref (Γ.cls c), d)) (noExn_strip e)).setS i (s := .exn c fs) (x := some (.ref a)) (fun d h => nomatch h) ⟨a, d, rfl, rfl, XD.xa.mpr xd⟩
        refine ⟨G, _, F', er2, ?_⟩
        have back : ∀ {e' σ'' F'' H''}, ER (Γ.at (some (a, .ref (Γ.cls c), d))) G e' σ'' F'' H'' → ER Γ G (strip (e'.set i .un)) (σ''.set i none) F'' H'' := fun {e' σ'' F'' H''} er3 =>
          ((er3.setS i (s := .un) (x := none) (fun d h => nomatch h) trivial).strip).unxa (noExn_strip _)
        simp only at q
        cases z3 : sden ((strip e).set i (.exn c fs)) with
        | nx e' => rw [z3] at q; exact fun σ'' F'' H'' s er3 => q _ F'' H'' (sF.trans s) (back er3)
        | bk e' => rw [z3] at q; exact fun σ'' F'' H'' s er3 => q _ F'' H'' (sF.trans s) (back er3)
        | ct e' => rw [z3] at q; exact fun σ'' F'' H'' s er3 => q _ F'' H'' (sF.trans s) (back er3)
        | ret d' => rw [z3] at q; exact fun v e' σ'' F'' H'' s er3 r => q v _ _ F'' H'' (sF.trans s) (back er3) ((Rep.xa d' v).mp r)
        | exc e' c' fs' => rw [z3] at q; exact q.elim
        | err => rw [z3] at q; exact q.elim
      · subst hb'
        exact q σ' F' H' d sF er' xd
theorem s_try_only (hs : X.stack = X.env :: X.outer) (hf : X.env.frame = some X.env.locals) (hc : Names X x cv) (tk : Takes X W)
    (hT : ∀ q ∈ tab, PySem.W.exmOne X.K (.ref (Γ.cls q.1)) cv = some q.2)
    (hb : ∀ (W : WX) (pn : List (Addr × Obj)) (xe : Value → Shared → Prop), Takes (X.tr pn xe) W → PassesOwn (model X.prog X.w) X.A X.env xe → PSs (X.tr pn xe) body (tS Γ W bden))
    (hsu : ∀ (a : Addr) (oe : Obj) (cls : Value) (d : Option Addr) (pn : List (Addr × Obj)), Zc cls d oe → (∃ vs, oe.data = .fields vs) → PSs (X.suite a ((a, oe) :: pn)) (b₀ :: suite) (tS Γ W0 sden)) :
    PS X (.Try body [.ExceptHandler (some (.Name x np)) none (b₀ :: suite) pos'] [] [] pos) (tS Γ W (dTryO tab bden sden)) :=
  PS.w (ps_try_only (tb := fun W => tS Γ W bden) (ts := fun a cls d => tS Γ W0 sden) hs hf hc tk hb hsu) fun Dd σ H ⟨G, env, F, er, q⟩ => by
  refine ⟨G, env, F, er, ?_⟩
  unfold dTryO at q
  cases z : bden env with
  | nx e => rw [z] at q; exact q
  | ret d => rw [z] at q; exact q
  | bk e => rw [z] at q; exact q
  | ct e => rw [z] at q; exact q
  | err => rw [z] at q; exact q
  | exc e c fs =>
    rw [z] at q
    simp only at q
    intro σ' F' H' d sF er' xd
    cases z2 : tab.lookup c with
    | none => rw [z2] at q; exact q.elim
    | some b =>
      rw [z2] at q
      refine ⟨b, hT _ (lookup_mem z2), fun hb' a hna => ?_, fun hb' => ?_⟩
      · subst hb'
        refine ⟨G, _, F', er', ?_⟩
        simp only at q
        cases z3 : sden e with
        | nx e' => rw [z3] at q; exact fun σ'' F'' H'' s er3 => q _ F'' H'' (sF.trans s) er3
        | bk e' => rw [z3] at q; exact fun σ'' F'' H'' s er3 => q _ F'' H'' (sF.trans s) er3
        | ct e' => rw [z3] at q; exact fun σ'' F'' H'' s er3 => q _ F'' H'' (sF.trans s) er3
        | ret d' => rw [z3] at q; exact fun v e' σ'' F'' H'' s er3 r => q v _ _ F'' H'' (sF.trans s) er3 r
        | exc e' c' fs' => rw [z3] at q; exact q.elim
        | err => rw [z3] at q; exact q.elim
      · subst hb'
        exact q σ' F' H' d sF er' xd
end

/-! ### what is asked of a caught exception -/
section
variable {X : Cx} {Γ : Gm} {W : WX} {i : Nat} {a : Addr} {oe : Obj} {cls : Value} {d : Option Addr} {pn : List (Addr × Obj)} {x y : Str} {p p1 p2 pos : Pos}
/-- isinstance(e, C) | isinstance(e, (C, ..)), by a table of the classes -/
def dIsE (tab : List (Nat × Bool)) (i : Nat) : Env → Res D := fun env => match env[i]? with
  | some (.exn c _) => op? ((tab.lookup c).map D.bl)
  | _ => .err
structure ExO (K : PySem.W.Frag) (D : Addr) : Prop where
  hcl : PySem.W.isClsIn K D = true
  hg : PySem.W.findIn K (.ref D) "__getattribute__" = some (some (.builtin "BaseException.__getattribute__"))
  hk : PySem.W.findIn K (.ref D) "__getattr__" = some none
  hs : PySem.W.subIn K (.ref D) (.type "BaseException") = some true
  hd : PySem.W.hasDictIn K D = true
  ha : PySem.W.findIn K (.ref D) "__class__" = some (some (.builtin "object.__class__"))
  hn : PySem.W.specialIn K (.builtin "object.__class__") "__get__" = some (some (.builtin "getset_descriptor.__get__"))
  ht : PySem.W.takesIn K (.builtin "object.__class__") = some true
  hm : PySem.W.mroIn K D (.type "object") = some true
/-- what a call of isinstance on the caught exception asks: c is one class, or a tuple of classes that was just laid -/
def rIsX (K : PySem.W.Frag) (a : Addr) (cls : Value) : List V → Hp → VK → Prop := fun xs H Q => ∃ (D : Addr) (b : Bool), cls = .ref D ∧ ExO K D ∧
  ((∃ (c : V) (cv : Value), xs = [.ref a, c] ∧ ClsV c cv ∧ PySem.W.kitOne K (.ref D) cv = some b) ∨
    ∃ (tp : Addr) (cs : List V) (us : List Value), xs = [.ref a, .ref tp] ∧ H tp = some (.tup cs) ∧ Paired ClsV cs us ∧ PySem.W.kitAny K (.ref D) us = some b) ∧ Q (.bl b) H
theorem exc_inst {pins : List (Addr × Obj)} {σ : L2.St} {H : Hp} {s : Shared} {D : Addr} (hz : Zc (.ref D) d oe) (hf : ∃ vs, oe.data = .fields vs) (I : Inv (X.suite a ((a, oe) :: pn)) pins σ H s) (hd : ∀ dd, d = some dd → ∃ fs, H dd = some (.xd fs)) :
    ∃ od, PySem.W.InstAt s.heap a oe D od := by
  obtain ⟨hget, _⟩ := I.pin (a, oe) (List.mem_append.mpr (.inl List.mem_cons_self))
  obtain ⟨vs, hv⟩ := hf
  obtain ⟨oc, od, oda, osl⟩ := oe
  obtain ⟨h1, h2⟩ := hz
  dsimp only at h1 h2 hv
  subst h1 h2 hv
  cases od with
  | none => exact ⟨none, hget, rfl, rfl, trivial⟩
  | some dd =>
    obtain ⟨fs, hdd⟩ := hd dd rfl
    obtain ⟨mA, hns, hr⟩ := (show ObjOk X.prog X.w H s.heap dd (.xd fs) from I.hok dd _ hdd)
    obtain ⟨od, ho, hl⟩ := lookIn_ns hns
    exact ⟨some od, hget, rfl, rfl, ho⟩
theorem call_isX (hz : Zc cls d oe) (hf : ∃ vs, oe.data = .fields vs) : CallR (X.suite a ((a, oe) :: pn)) (.builtin "isinstance") (fun xs H Q => rIsX X.K a cls xs H Q ∧ ∀ dd, d = some dd → ∃ fs, H dd = some (.xd fs)) := by
  intro pins s σ H xs us Q I r h
  obtain ⟨⟨D, b, hcls, C, h, q⟩, hd⟩ := h
  subst hcls
  obtain ⟨od, J⟩ := exc_inst hz hf I hd
  have Z : PySem.W.KitX X.K (.ref a) (.ref D) (fun h => PySem.W.InstAt h a oe D od) := PySem.W.kitx_exc C.hcl C.hg C.hk C.hs C.ha C.hn C.ht C.hm
  rcases h with ⟨c, cv, rfl, hc, e⟩ | ⟨tp, cs, ws, rfl, hT, hk, e⟩
  · obtain ⟨u1, u2, rfl, r1, r2⟩ := vals2 r
    cases (show u1 = Value.ref a from r1)
    have e2 := hc.eq r2
    subst e2
    exact PySem.W.kia_one Z I.kIn J e (fun z => nomatch z) fun tk => ⟨.bl b, H, I.kept (t' := tk) fun _ _ z => z, rfl, q⟩
  · obtain ⟨u1, u2, rfl, r1, r2⟩ := vals2 r
    cases (show u1 = Value.ref a from r1)
    cases (show u2 = Value.ref tp from r2)
    obtain ⟨_, its, rv, o, h1, h2, n, h3⟩ := (show ObjOk X.prog X.w H s.heap tp (.tup cs) from I.hok tp _ hT)
    have e3 := ClsV.all hk rv
    subst e3
    obtain ⟨oc, od', dt, sl⟩ := o
    simp only at h2 h3
    subst h2 h3
    exact PySem.W.kia_tup Z I.kIn J h1 e (fun z => nomatch z) fun tk => ⟨.bl b, H, I.kept (t' := tk) fun _ _ z => z, rfl, q⟩
theorem XD.at_ {c : Nat} {fs : Option (List D)} {F H : Hp} (h : XD Γ F c fs d) (s : Same F H) : ∀ dd, d = some dd → ∃ fs, H dd = some (.xd fs) := fun dd e => by
  cases fs with
  | none => cases (show d = none from h).symm.trans e
  | some ds => obtain ⟨d', vs, e1, q, _⟩ := h; cases e1.symm.trans e; exact ⟨_, s _ _ q⟩
theorem e_isE {cx : V} {cv : Value} {tab : List (Nat × Bool)} (hz : Zc cls d oe) (hf : ∃ vs, oe.data = .fields vs) (hg : Gl X "isinstance") (hm : X.mg "isinstance" = none) (hv : PE (X.suite a ((a, oe) :: pn)) (.Name x p2) (tVar i)) {e : Expr} (he : PE (X.suite a ((a, oe) :: pn)) e (tC cx)) (hcv : ClsV cx cv)
    (hT : ∀ q ∈ tab, ExO X.K (Γ.cls q.1) ∧ PySem.W.kitOne X.K (.ref (Γ.cls q.1)) cv = some q.2)
    (hs : starEach [.Name x p2, e] X.env = (false, eval (.Name x p2) X.env) :: starEach [e] X.env := by rfl) (hpl : (backTo pos (starEach [e] X.env)).any (·.1) = false := by rfl) (hs2 : starEach [e] X.env = (false, eval e X.env) :: starEach [] X.env := by rfl) :
    PE (X.suite a ((a, oe) :: pn)) (.Call (.Name "isinstance" p1) [.Name x p2, e] [] pos) (tE (Γ.at (some (a, cls, d))) W (dIsE tab i)) :=
  PE.w (pe_callB (X := X.suite a ((a, oe) :: pn)) (call_isX hz hf) hg hm (by decide +kernel) (pa_cons hv (pa_cons he pa_nil hs2) hs) (by decide) (by decide) hs hpl) fun σ H Q ⟨G, env, F, er, h⟩ => by
  unfold dIsE at h
  split at h
  · rename_i c fs h0
    obtain ⟨y, hy, a', d', e1, e2, xd⟩ := er.sl i _ h0
    cases e1
    have e2 : some (a, cls, d) = some (a', Value.ref (Γ.cls c), d') := e2
    cases e2
    cases z : tab.lookup c with
    | none => rw [z] at h; exact h.elim
    | some b =>
      rw [z] at h
      obtain ⟨T1, T2⟩ := hT _ (lookup_mem z)
      refine ⟨.ref a, hy, ⟨Γ.cls c, b, rfl, T1, .inl ⟨cx, cv, rfl, hcv, T2⟩, ?_⟩, xd.at_ er.fh⟩
      exact h.ok er _ rep_bl
  · exact h.elim
theorem e_isEt {cs : List V} {us : List Value} {es : List Expr} {pt : Pos} {k1 : Nat} {tab : List (Nat × Bool)} (hz : Zc cls d oe) (hf : ∃ vs, oe.data = .fields vs) (hg : Gl X "isinstance") (hm : X.mg "isinstance" = none) (hv : PE (X.suite a ((a, oe) :: pn)) (.Name x p2) (tVar i))
    (he : PA (X.suite a ((a, oe) :: pn)) es (fun σ H Q => Q cs H)) (hcv : Paired ClsV cs us) (hl : cs.length ≤ sizeLine)
    (hT : ∀ q ∈ tab, ExO X.K (Γ.cls q.1) ∧ PySem.W.kitAny X.K (.ref (Γ.cls q.1)) us = some q.2)
    (hs : starEach [.Name x p2, .Tuple es k1 pt] X.env = (false, eval (.Name x p2) X.env) :: starEach [.Tuple es k1 pt] X.env := by rfl) (hpl : (backTo pos (starEach [.Tuple es k1 pt] X.env)).any (·.1) = false := by rfl) (hs2 : starEach [.Tuple es k1 pt] X.env = (false, eval (.Tuple es k1 pt) X.env) :: starEach [] X.env := by rfl) :
    PE (X.suite a ((a, oe) :: pn)) (.Call (.Name "isinstance" p1) [.Name x p2, .Tuple es k1 pt] [] pos) (tE (Γ.at (some (a, cls, d))) W (dIsE tab i)) :=
  PE.w (pe_callB (X := X.suite a ((a, oe) :: pn)) (call_isX hz hf) hg hm (by decide +kernel) (pa_cons hv (pa_cons (pe_tup he) pa_nil hs2) hs) (by decide) (by decide) hs hpl) fun σ H Q ⟨G, env, F, er, h⟩ => by
  unfold dIsE at h
  split at h
  · rename_i c fs h0
    obtain ⟨y, hy, a', d', e1, e2, xd⟩ := er.sl i _ h0
    cases e1
    have e2 : some (a, cls, d) = some (a', Value.ref (Γ.cls c), d') := e2
    cases e2
    cases z : tab.lookup c with
    | none => rw [z] at h; exact h.elim
    | some b =>
      rw [z] at h
      obtain ⟨T1, T2⟩ := hT _ (lookup_mem z)
      refine ⟨.ref a, hy, hl, fun tp htp => ⟨⟨Γ.cls c, b, rfl, T1, .inr ⟨tp, cs, us, rfl, upd_same, hcv, T2⟩, ?_⟩, fun dd hdd => ?_⟩⟩
      · have ft : F tp = none := by
          cases z : F tp with
          | none => rfl
          | some o => have := er.fh tp o z; rw [htp] at this; cases this
        exact h F _ ⟨Same.refl _, fun b o q => by rw [upd_ne (ne_of_none q ft)]; exact er.fh b o q, fun b o q => by rw [upd_ne (ne_of_none q htp)]; exact q, fun b o q => .inl q⟩ _ rep_bl
      · obtain ⟨fs', q⟩ := xd.at_ er.fh dd hdd
        exact ⟨fs', by rw [upd_ne (ne_of_none q htp)]; exact q⟩
  · exact h.elim
/-- e.f -/
def dXf (tab : List (Nat × Nat)) (i : Nat) : Env → Res D := fun env => match env[i]? with
  | some (.exn c (some ds)) => op? ((tab.lookup c).bind fun j => ds[j]?)
  | _ => .err
structure XfO (K : PySem.W.Frag) (Γ : Gm) (c : Nat) (f : Str) (j : Nat) : Prop where
  xf : XfC K (Γ.cls c)
  no : PySem.W.findIn K (.ref (Γ.cls c)) f = some none
  ix : fIx (Γ.flds c) f = some j
theorem e_xf {f : Str} {tab : List (Nat × Nat)} (hz : Zc cls d oe) (hf : ∃ vs, oe.data = .fields vs) (hv : PE (X.suite a ((a, oe) :: pn)) (.Name x p2) (tVar i)) (hT : ∀ q ∈ tab, XfO X.K Γ q.1 f q.2)
    (hb : attributeBase (.Name x p2) f X.env (eval (.Name x p2) X.env) = eval (.Name x p2) X.env := by rfl) :
    PE (X.suite a ((a, oe) :: pn)) (.Attribute (.Name x p2) f pos) (tE (Γ.at (some (a, cls, d))) W (dXf tab i)) := PE.u fun σ H Q ⟨G, env, F, er, h⟩ => by
  unfold dXf at h
  split at h
  · rename_i c ds h0
    obtain ⟨y, hy, a', d', e1, e2, xd⟩ := er.sl i _ h0
    cases e1
    have e2 : some (a, cls, d) = some (a', Value.ref (Γ.cls c), d') := e2
    cases e2
    cases z : tab.lookup c with
    | none => rw [z] at h; exact h.elim
    | some j =>
      rw [z] at h
      simp only [Option.bind_some] at h
      cases z2 : ds[j]? with
      | none => rw [z2] at h; exact h.elim
      | some dd =>
        rw [z2] at h
        have T := hT _ (lookup_mem z)
        refine ⟨_, pe_xf T.xf T.no hz hf hv hb, .ref a, hy, rfl, rfl, ?_⟩
        obtain ⟨d2, vs, e3, q, l, r⟩ := xd
        obtain ⟨v, jv, rv⟩ := r.get z2
        have hj : j < (Γ.flds c).length := (List.getElem?_eq_some_iff.mp (fIx_lt T.ix)).1
        obtain ⟨u, lu, ju⟩ := fIx_lookup (fs := vs) (k := (Γ.flds c).length) (by rw [List.take_length]; exact l) T.ix hj
        rw [jv] at ju; cases ju
        exact ⟨d2, vs, v, e3, er.fh _ _ q, lu, h.ok er v rv⟩
  · exact h.elim
end
end Dn

/-! Den17.lean -/
namespace Dn
open PySem PySem.Spec PyProof.Rows L2

section
variable {X : Cx} {Γ : Gm} {W : WX} {p pos : Pos} {e : Expr} {es : List Expr} {dl : Env → Res (List D)} {x : Str}
/-- list(..): a new list -/
def bList : List D → Option D
  | [.lst ds] => some (.lst ds)
  | [.tup ds] => some (.lst ds)
  | [.scr ns] => some (.lst (ns.map D.int))
  | _ => none
theorem can_list : CaN Γ (fun xs H Q => ∃ p ys, xs = [.ref p] ∧ (SqL Γ.K H p ys ∨ SqT Γ.K H p ys) ∧ ∀ l, H l = none → Q (.ref l) (upd H l (.lst ys))) bList := fun {F H ds vs Q d} s rv e k => by
  have fin : ∀ {ys : List V} {zs : List D}, Reps Γ F zs ys → zs.length ≤ sizeLine → d = .lst zs → ∀ l, H l = none → Q (.ref l) (upd H l (.lst ys)) := fun {ys zs} rr hz hd l hl => by
    have fl : F l = none := by
      cases z : F l with
      | none => rfl
      | some o => have := s l o z; rw [hl] at this; cases this
    refine k l F _ ⟨Same.refl _, fun b o q => by rw [upd_ne (ne_of_none q fl)]; exact s b o q, fun b o q => by rw [upd_ne (ne_of_none q hl)]; exact q, fun b o q => .inl q⟩ fl hl ?_
    subst hd
    exact ⟨ys, upd_same, hz, rr⟩
  unfold bList at e
  split at e
  · rename_i ds; cases e
    obtain ⟨v, rfl, r⟩ := one_pair rv
    obtain ⟨a, ws, rfl, q, l, rr⟩ := r.lst s
    exact ⟨a, ws, rfl, .inl (SqL.of q), fin rr l rfl⟩
  · rename_i ds; cases e
    obtain ⟨v, rfl, r⟩ := one_pair rv
    obtain ⟨a, ws, rfl, q, l, rr⟩ := r.tup s
    exact ⟨a, ws, rfl, .inr q, fin rr l rfl⟩
  · rename_i ns; cases e
    obtain ⟨v, rfl, r⟩ := one_pair rv
    obtain ⟨a, rfl, l, q⟩ := r.scr s
    exact ⟨a, _, rfl, .inl q, fin reps_ints (by simpa using l) rfl⟩
  · cases e
theorem n_list (hk : Γ.K = X.K) (hg : Gl X "list") (hm : X.mg "list" = none) (ha : PA X (e :: es) (tAW Γ W dl)) (he : starEach (e :: es) X.env = (false, eval e X.env) :: starEach es X.env := by rfl) (hpl : (backTo pos (starEach es X.env)).any (·.1) = false := by rfl) :
    PE X (.Call (.Name "list" p) (e :: es) [] pos) (tN Γ W (dBi bList dl)) := n_bty (r := fun xs H Q => ∃ p ys, xs = [.ref p] ∧ (SqL Γ.K H p ys ∨ SqT Γ.K H p ys) ∧ ∀ l, H l = none → Q (.ref l) (upd H l (.lst ys))) (by rw [hk]; exact call_list_of) can_list hg hm (by decide +kernel) ha (by decide) (by decide) he hpl
theorem flat_list : ∀ env d, dBi bList dl env = .ok d → flat d = true := fun env d h => by
  unfold dBi at h
  cases z : dl env with
  | err => rw [z] at h; cases h
  | exc c fs => rw [z] at h; cases h
  | ok ds =>
    rw [z] at h
    simp only [Res.bind_ok] at h
    cases z2 : bList ds with
    | none => rw [z2] at h; cases h
    | some d' =>
      rw [z2] at h; cases h
      unfold bList at z2
      split at z2 <;> cases z2 <;> rfl
/-- int(..) of a truth or a number -/
def bInt : List D → Option D
  | [.int i] => some (.int i)
  | [.bl b] => some (.int (if b then 1 else 0))
  | _ => none
theorem cas_int : CaS Γ (fun xs H Q => (∃ i, xs = [V.int i] ∧ Q (.int i) H) ∨ ∃ k, xs = [.bl k] ∧ Q (.int (if k then 1 else 0)) H) bInt := fun {F H ds vs Q d} s rv e k => by
  unfold bInt at e
  split at e
  · rename_i i; cases e
    obtain ⟨v, rfl, r⟩ := one_pair rv
    exact .inl ⟨i, by rw [r.int], k _ F H (Gr.refl s) rep_int⟩
  · rename_i b; cases e
    obtain ⟨v, rfl, r⟩ := one_pair rv
    exact .inr ⟨b, by rw [r.bl], k _ F H (Gr.refl s) rep_int⟩
  · cases e
theorem e_int1 (hg : Gl X "int") (hm : X.mg "int" = none) (ha : PA X (e :: es) (tAW Γ W dl)) (he : starEach (e :: es) X.env = (false, eval e X.env) :: starEach es X.env := by rfl) (hpl : (backTo pos (starEach es X.env)).any (·.1) = false := by rfl) :
    PE X (.Call (.Name "int" p) (e :: es) [] pos) (tE Γ W (dBi bInt dl)) := e_bty call_int1 cas_int hg hm (by decide +kernel) ha (by decide) (by decide) he hpl
end

/-! ### a class called with keywords -/
section
variable {X : Cx} {Γ : Gm} {W : WX} {k c nf n N : Nat} {g : Nat → List D → List D → Res (List D)} {x : Str} {p pos kpos : Pos} {e : Expr} {es : List Expr} {kws : List Keyword} {nm : Option Str} {ks : List Str} {dl dk : Env → Res (List D)} {da : Env → Res D} {dr : Env → Res (List D)}
theorem k_nil : PK X [] (tA Γ W dNil) := ⟨fun pos pins s σ H Q I h => pk_nil.run pos pins s σ H Q I (let ⟨G, env, F, er, q⟩ := h; post.ok (W := W) er q [] .nil)⟩
theorem k_cons (ha : PE X e (tE Γ W da)) (hr : PK X kws (tA Γ W dr)) : PK X (⟨nm, e, kpos⟩ :: kws) (tA Γ W (dCons da dr)) := ⟨fun pos pins s σ H Q I h => (pk_cons ha hr).run pos pins s σ H Q I (by
  obtain ⟨G, env, F, er, h⟩ := h
  refine ⟨G, env, F, er, h.bind.imp fun d F1 H1 _ g1 h1 v r1 => ⟨G, env, F1, er.gr g1, h1.bind.imp fun ds F2 H2 _ g2 h2 vs r2 => ?_⟩⟩
  exact h2.ok ((er.gr g1).gr g2) _ (.cons (r1.mono g2.ff) r2))⟩
structure MkK (P : Program) (w : World) (K : PySem.W.Frag) (mg : Str → Option Value) (base : Heap) (Γ : Gm) (k : Nat) (C : Addr) (n : Nat) (ks : List Str) (N : Nat) (g : Nat → List D → List D → Res (List D)) : Prop where
  ex : ∃ f fd ps, Mk K C f ∧ FnOk P w K mg base (L2.CX P w) k f fd ps (spI Γ N g) ∧ KBn K fd ps (n + 1) ks (fun us ws => us ++ ws) (fun vs zs => vs ++ zs)
def dMakeK (c nf n nk N : Nat) (g : Nat → List D → List D → Res (List D)) (dl dk : Env → Res (List D)) : Env → Res D := fun env => (dl env).bind fun ds => (dk env).bind fun zs => if ds.length = n ∧ zs.length = nk ∧ n + nk = N then mkR c nf (g c [] (ds ++ zs)) else .err
theorem e_makeK (hF : MkK X.prog X.w X.K X.mg X.base Γ k (Γ.cls c) n ks N g) (hnf : (Γ.flds c).length = nf) (hr : Room (k + 1) X.A) (tk : Takes X W) (hg : Gl X x) (hm : X.mg x = some (.ref (Γ.cls c)))
    (ha : PA X (e :: es) (tA Γ W dl)) (hkw : PK X kws (tA Γ W dk)) (hall : (backToKw pos (keywordEach kws X.env)).all (·.1.isSome) = true := by rfl) (hks : (backToKw pos (keywordEach kws X.env)).filterMap (·.1) = ks := by rfl)
    (hdb : (x == ("__debug__" : Str)) = false := by decide) (he : starEach (e :: es) X.env = (false, eval e X.env) :: starEach es X.env := by rfl)
    (hpl : ((backTo pos (starEach (e :: es) X.env)).any (·.1) || (backToKw pos (keywordEach kws X.env)).any (·.1.isNone)) = false := by rfl) :
    PE X (.Call (.Name x p) (e :: es) kws pos) (tE Γ W (dMakeK c nf n ks.length N g dl dk)) := by
  obtain ⟨f, fd, ps, M, F1, hb⟩ := hF.ex
  refine ⟨fun pins s σ H Q I ⟨G, env, F, er, h⟩ => ?_⟩
  refine wpAny_Call_Name_kw (ld_glob I hg hm ?_ hdb)
  have hh := ha.run pos pins s σ H (fun vs H1 => ∃ F1 ds, ER Γ G env σ F1 H1 ∧ Reps Γ F1 ds vs ∧ post Γ W σ F1 H1 ((dk env).bind fun zs => if ds.length = n ∧ zs.length = ks.length ∧ n + ks.length = N then mkR c nf (g c [] (ds ++ zs)) else .err) (kE Γ Q)) I ⟨G, env, F, er, h.bind.imp fun ds F1 H1 _ g1 h1 vs r => ⟨F1, ds, er.gr g1, r, h1⟩⟩
  refine PySem.W.callWith_KW (h₀ := X.base) I.ok.mod.kin M.kp hall (thn hh fun us s1 ⟨vs, H1, I1, r, F2, ds, er1, rd, q⟩ => ?_) hpl he
  have hh2 := hkw.run pos pins s1 σ H1 (fun zv H2 => ∃ F3 zs, ER Γ G env σ F3 H2 ∧ Reps Γ F3 ds vs ∧ Reps Γ F3 zs zv ∧ post Γ W σ F3 H2 (if ds.length = n ∧ zs.length = ks.length ∧ n + ks.length = N then mkR c nf (g c [] (ds ++ zs)) else .err) (kE Γ Q)) I1 ⟨G, env, F2, er1, q.bind.imp fun zs F3 H2 _ g2 h2 zv rz => ⟨F3, zs, er1.gr g2, rd.mono g2.ff, rz, h2⟩⟩
  refine thn hh2 fun ws s2 ⟨zv, H2, I2, rz, F3, zs, er2, rd2, rzd, q2⟩ => ⟨I2.kIn, ?_⟩
  rw [hks]
  split at q2
  · rename_i hn
    obtain ⟨l1, l2, l3⟩ := hn
    have e1 : vs.length = n := rd2.length.trans l1
    have e2 : zv.length = ks.length := rzd.length.trans l2
    have hq := mk_sp (W := W) (σ := σ) (Q := Q) (dfl := []) (dvs := []) (n := N) (g := g) (by simp; omega) er2.fh (rd2.append rzd) (fun _ => .nil) (I2.hok.fresh (Nat.le_succ s2.heap.objs.size)) (I2.hok.fresh (Nat.le_refl s2.heap.objs.size)) (Nat.ne_of_lt (Nat.lt_succ_self _)) hnf (by simpa using q2) rfl
    simp only [List.append_nil] at hq
    have I3 := Inv.made (C := Γ.cls c) I2
    have r1 : Vals (V.ref (s2.heap.objs.size + 1) :: vs) (Value.ref (s2.heap.objs.size + 1) :: us) := .cons rfl r
    have r2 := hb.rel r1 rz
    have e3 : (Value.ref (s2.heap.objs.size + 1) :: us).length = n + 1 := r1.length.symm.trans (congrArg Nat.succ e1)
    have e4 : ws.length = ks.length := rz.length.symm.trans e2
    refine wpAny_call (make_map (f := f) I2.kIn M.makes M.init (beq_iff_eq.mp M.fn) (codeAny_mono (F1.run _ X.stack _ _ ⟨Value.ref (s2.heap.objs.size + 1) :: us, ks.zip ws⟩ ((Value.ref (s2.heap.objs.size + 1) :: us) ++ ws) _ _ _ (hr.make (Γ.cls c) us (ks.zip ws))
      (I3.env0.make (Γ.cls c) us (ks.zip ws)) (hb.to _ (Value.ref (s2.heap.objs.size + 1) :: us) ws I3.kIn e3 e4) r2 hq) fun r s' hq' => ?_))
    cases r with
    | error e => exact passAt tk σ pins _ _ e s' I3 hq'
    | ok fl =>
      cases fl with
      | ret u =>
        obtain ⟨v, H', I4, rv, ev, q3⟩ := I3.after hq'
        subst ev
        exact ⟨rv, ⟨V.ref (s2.heap.objs.size + 1), H', I4, rfl, q3⟩⟩
      | next => exact False.elim hq'
      | brk => exact False.elim hq'
      | cont => exact False.elim hq'
  · exact q2.elim
end
theorem passes0 {P : Program} {w : World} {X : Cx} : Passes (L2.CX P w) X (fun _ _ _ => False) := fun _ _ _ _ _ _ _ ⟨_, _, _, _, _, _, _, _, _, _, _, _, z⟩ => z.elim
end Dn

/-! Hd.lean -/
/-! The head: what the top leaves, read by one run in the kernel. -/
namespace Dn
open PySem PySem.Spec PyProof.Rows L2

def oexB (K : PySem.W.Frag) (C : Addr) : Bool := (match K.lookup C with
  | some ⟨.type ty, _, .cls ⟨_, _, .ref C' :: bm, _, _, true, _, _, _, _, false⟩, ⟨[_, _, _, _, some (.builtin ni), _]⟩⟩ => decide (ty = "type") && (decide (C' = C) && (decide (ni = "ValueError.__new__") && PySem.HandSPX.refsVE bm))
  | _ => false) && (decide (PySem.W.findIn K (.ref C) "__setattr__" = some (some (.builtin "object.__setattr__"))) && (decide (PySem.W.subIn K (.ref C) (.type "BaseException") = some true) && (decide (PySem.W.typeIn K (.ref C) = some (.type "type")) && PySem.W.keepIn K (.ref C))))
theorem oexB_ok {K : PySem.W.Frag} {C : Addr} (h : oexB K C = true) : OexC K C := by
  obtain ⟨h1, h⟩ := He.ba h
  obtain ⟨h2, h⟩ := He.ba h
  obtain ⟨h3, h⟩ := He.ba h
  obtain ⟨h4, h5⟩ := He.ba h
  refine ⟨?_, of_decide_eq_true h2, of_decide_eq_true h3, of_decide_eq_true h4, h5⟩
  split at h1
  · rename_i q
    obtain ⟨a1, h1⟩ := He.ba h1
    obtain ⟨a2, h1⟩ := He.ba h1
    obtain ⟨a3, a4⟩ := He.ba h1
    obtain rfl := of_decide_eq_true a1
    obtain rfl := of_decide_eq_true a2
    obtain rfl := of_decide_eq_true a3
    exact ⟨_, _, _, _, _, _, _, _, _, _, _, _, _, _, _, q, a4⟩
  · cases h1
def valB (c : Option PySem.W.CFound) (v : Value) : Bool := match c with
  | some (.val u) => decide (u = v)
  | _ => false
theorem valB_ok {c : Option PySem.W.CFound} {v : Value} (h : valB c v = true) : c = some (.val v) := by
  unfold valB at h
  split at h
  · rw [of_decide_eq_true h]
  · cases h
theorem Fun.ofD {K : PySem.W.Frag} {x qual : Str} {st : Stmt} {f : Addr} {fd : FuncData} (F : FunD K x qual (defArgs st) (defBody st) (defScope st) [] [] f fd) : Fun K x qual st f fd := by
  obtain ⟨oc, od, dV, kV, doc, pm, an, cdv, ct, osl, rfl, lk, hcd, hD, hK⟩ := F.ex
  rcases hD with ⟨_, rfl⟩ | ⟨e, _⟩
  · exact ⟨⟨oc, od, kV, doc, pm, an, cdv, ct, osl, rfl, lk, hcd⟩, F.kp⟩
  · exact absurd rfl e
theorem head_fact {ex : PySem.W.Frag → Bool} {qs : List (PySem.W.Frag → Bool)} {K : PySem.W.Frag} (he : ex = fun K => qs.all fun q => q K) (c : ex K = true) {q : PySem.W.Frag → Bool} (i : Nat) (h : qs[i]? = some q) : q K = true := by
  subst he
  exact List.all_eq_true.mp c q (List.mem_of_getElem? h)
end Dn
namespace Dn
open PySem PySem.Spec PyProof.Rows L2
/-- the law's end over a head by facts; what may leave a def hangs on the world -/
theorem walk_w {l : PySem.W.OpenLaw} {n k : Nat} {q : Program} {loose : List Str} {XP : (Str → Option Value) → Heap → Prop} {YP : World → Heap → Prop} {d : DefRec} (CX : World → CXT) {x : Str} (hn : l.most = some n) (hn2 : n ≤ sizeLine)
    (hdf : d.params.defaults = []) (hr : Room k callerA) (hCX : ∀ (w : World) (H : Hp) (s : Shared) (e : Value) (s' : Shared), CX w [] H s (fun _ _ _ => False) e s' → False)
    (F : ∀ (w : World) (mg : Str → Option Value) (fa : Addr) (h : Heap), YP w h → h.Ns mainGlobals mg → mg d.name = some (.ref fa) → ∃ (K : PySem.W.Frag) (fd : FuncData) (sp : Sp), K.In h ∧ (∀ (s : Shared) (u : Value), BindsTo s fd ⟨[u], []⟩ [(x, u)]) ∧
        (∀ (H : Hp) (a : Addr) (ns : List Int), ns.length ≤ n → Only H → SqL K H a (ns.map V.int) → sp [.ref a] H (fun v _ => v = .bl true) fun _ _ _ => False) ∧ ∀ base : Heap, K.In base → base.Ns mainGlobals mg → FnOk l.prog w K mg base (CX w) k fa fd [x] sp) :
    PySem.W.WalkO q loose XP YP l.row.toRowW d [] (fun f vs => PySem.call f vs) := Att.attach_call hn hdf fun w _ s1 mg _ fa _ _ _ _ a _ ns G Y _ _ _ hmg hobj hints hlen hg =>
  have ⟨_, _, _, KX, hb, hsp, hF⟩ := F w mg fa _ Y G.T.g hmg
  law_call KX G.T.g G.T.b G.T.builtins G.T.nolimit hg hobj hints (Nat.le_trans hlen hn2) hr hF hb (fun H hO hS => hsp H a ns hlen hO hS) fun H e s' => hCX w H s1 e s'
end Dn
namespace Dn
open PySem PySem.Spec PyProof.Rows L2
/-! ### a Hook of one Bool and the defs; what is looked at begins at the statics, too -/
def vK (n : Nat) (g : Addr → Option Obj) : PySem.W.Frag := He.frG g (cStatics :: He.asD g n)
def vObs (fn : List He.DefD) (ex : PySem.W.Frag → Bool) (K : PySem.W.Frag) : He.AlD := (ex K && fn.all fun d => d.ok K, fn.map fun d => He.fnW K d.at_)
def SaysV (fn : List He.DefD) (ex : PySem.W.Frag → Bool) (K : PySem.W.Frag) : Prop := vObs fn ex K = He.valD fn
def hookV (n : Nat) (fn : List He.DefD) (ex : PySem.W.Frag → Bool) : PySem.W.Hook := ⟨He.AlD, fun s => vObs fn ex (vK n s.heap.get?), fun _ => He.valD fn, fun _ h => ∃ K : PySem.W.Frag, K.In h ∧ SaysV fn ex K, fun _ _ e => ⟨_, He.frG_in, e⟩, fun _ _ _ z k => let ⟨K, i, c⟩ := z; ⟨K, i.keeps k, c⟩⟩
theorem obsV_eq {n : Nat} {fn : List He.DefD} {ex : PySem.W.Frag → Bool} {g : Addr → Option Obj} {s : Shared} (h : ∀ a, g a = s.heap.get? a) : vObs fn ex (vK n g) = (hookV n fn ex).obs s := by rw [funext h]; rfl
section
variable {fn : List He.DefD} {ex : PySem.W.Frag → Bool} {K : PySem.W.Frag}
theorem SaysV.more (c : SaysV fn ex K) : ex K = true := (He.ba (congrArg Prod.fst c)).1
theorem SaysV.def_ (c : SaysV fn ex K) (i : Nat) {d : He.DefD} (h : fn[i]? = some d) : ∃ fd, FunD K d.name d.qual d.params d.body d.scope (d.dvs K) (d.kws K) (He.fAd K d.at_) fd := by
  have e2 : (fn.map fun d => He.fnW K d.at_)[i]? = (fn.map He.DefD.val)[i]? := congrArg (·[i]?) (congrArg Prod.snd c)
  rw [List.getElem?_map, List.getElem?_map, h] at e2
  exact He.DefD.funD (Option.some.inj e2) (List.all_eq_true.mp (He.ba (congrArg Prod.fst c)).2 d (List.mem_of_getElem? h))
end
end Dn

/-! Den18.lean -/
namespace Dn
open PySem PySem.Spec PyProof.Rows L2
/-! ### an instance of a class that has no __init__ of its own -/
structure MkO (K : PySem.W.Frag) (C : Addr) : Prop where
  makes : PySem.W.makesIn K C = true
  init : PySem.W.findIn K (.ref C) "__init__" = some (some (.builtin "object.__init__"))
  top : PySem.W.mroIn K C (.type "object") = some true
  kp : PySem.W.keepIn K (.ref C) = true
section
variable {X : Cx} {Γ : Gm} {W : WX} {x : Str} {p pos : Pos} {c : Nat}
theorem run_mkO {pins : List (Addr × Obj)} {σ : L2.St} {H : Hp} {s : Shared} {Q : VK} (M : MkO X.K (Γ.cls c)) (I : Inv X pins σ H s)
    (h : ∀ x dx, H x = none → H dx = none → dx ≠ x → Q (.ref x) (upd (upd H dx (.own x)) x (.ins (Γ.cls c) dx []))) : wpAny (model X.prog X.w) X.A (call (.ref (Γ.cls c)) []) (EP X pins σ Q) X.xe s := by
  have hx : H (s.heap.objs.size + 1) = none := I.hok.fresh (Nat.le_succ s.heap.objs.size)
  have hdx : H s.heap.objs.size = none := I.hok.fresh (Nat.le_refl s.heap.objs.size)
  have I2 := Inv.made (C := Γ.cls c) I
  refine wpAny_call (make_map0 I.kIn M.makes M.init (fun self => PySem.W.Looks.of_pure (PySem.W.oi_bind _)) ?_)
  have e2 : ((s.heap.push PySem.W.emptyDict).push (PySem.W.instObj (Γ.cls c) s.heap.objs.size)).get? (s.heap.objs.size + 1) = some (PySem.W.instObj (Γ.cls c) s.heap.objs.size) := by
    have := Heap.get?_push_size (s.heap.push PySem.W.emptyDict) (o := PySem.W.instObj (Γ.cls c) s.heap.objs.size) rfl
    rwa [Heap.size_push] at this
  have t1 : PySem.W.Looks (model X.prog X.w) ((s.heap.push PySem.W.emptyDict).push (PySem.W.instObj (Γ.cls c) s.heap.objs.size)) (typeOf (.ref (s.heap.objs.size + 1))) (.ref (Γ.cls c)) := (PySem.W.Looks.ld e2).andThen .now
  have t2 : PySem.W.Looks (model X.prog X.w) ((s.heap.push PySem.W.emptyDict).push (PySem.W.instObj (Γ.cls c) s.heap.objs.size)) (isInstance (.ref (s.heap.objs.size + 1)) (.type "object")) true := t1.andThen (PySem.W.looks_mroIn I2.kIn M.top)
  refine codeAny_call_builtin PySem.W.oi_plain PySem.W.entry_oi (@PySem.W.check_slot (model X.prog X.w) _ _ _ "object.__init__" "object" "__init__" (.ref (s.heap.objs.size + 1)) [] [] _ PySem.W.oi_kind PySem.W.oi_split t2 (PySem.W.oi_args _) ?_)
  rw [PySem.W.oi_run]
  exact wpAny_pure ⟨rfl, V.ref (s.heap.objs.size + 1), _, I2, rfl, h _ _ hx hdx (Nat.ne_of_lt (Nat.lt_succ_self _))⟩
theorem e_mkO (M : MkO X.K (Γ.cls c)) (hnf : Γ.flds c = []) (hg : Gl X x) (hm : X.mg x = some (.ref (Γ.cls c))) (hdb : (x == ("__debug__" : Str)) = false := by decide) :
    PE X (.Call (.Name x p) [] [] pos) (tE Γ W (dC (.obj c []))) := by
  refine ⟨fun pins s σ H Q I ⟨G, env, F, er, h⟩ => ?_⟩
  refine wpAny_Call_Name_kw (ld_glob I hg hm ?_ hdb)
  refine PySem.W.callWith_K0 I.kIn M.kp (run_mkO M I fun x dx hx hdx ne => ?_)
  have fx : F x = none := by
    cases q : F x with
    | none => rfl
    | some u => have := er.fh x u q; rw [hx] at this; cases this
  have fdx : F dx = none := by
    cases q : F dx with
    | none => rfl
    | some u => have := er.fh dx u q; rw [hdx] at this; cases this
  have g : Gr F H F (upd (upd H dx (.own x)) x (.ins (Γ.cls c) dx [])) := ⟨Same.refl _, fun b u q => by rw [upd_ne (ne_of_none q fx), upd_ne (ne_of_none q fdx)]; exact er.fh b u q,
    fun b u q => by rw [upd_ne (ne_of_none q hx), upd_ne (ne_of_none q hdx)]; exact q, fun b u q => .inl q⟩
  obtain ⟨F2, g2, r2⟩ := fresh_gr (d := .obj c []) g fx hx ⟨dx, [], upd_same, by simp, .nil⟩ fun c' ds' z => by cases z; rw [hnf]; rfl
  exact h F2 _ g2 _ r2
end
end Dn

/-! Ev.lean -/
/-! How denotations are reckoned: applied forms for simp. -/
namespace Dn
open PySem L2

def Out.seq (o : Out) (b : Env → Out) : Out := match o with
  | .nx e => b e
  | o => o
@[simp] theorem Out.seq_nx (e : Env) (b : Env → Out) : (Out.nx e).seq b = b e := rfl
@[simp] theorem Out.seq_ret (d : D) (b : Env → Out) : (Out.ret d).seq b = .ret d := rfl
@[simp] theorem Out.seq_bk (e : Env) (b : Env → Out) : (Out.bk e).seq b = .bk e := rfl
@[simp] theorem Out.seq_ct (e : Env) (b : Env → Out) : (Out.ct e).seq b = .ct e := rfl
@[simp] theorem Out.seq_exc (e : Env) (c fs) (b : Env → Out) : (Out.exc e c fs).seq b = .exc e c fs := rfl
@[simp] theorem Out.seq_err (b : Env → Out) : (Out.err).seq b = .err := rfl
theorem Out.seq_ite {p : Prop} [Decidable p] (x y : Out) (b : Env → Out) : (if p then x else y).seq b = if p then x.seq b else y.seq b := by split <;> rfl
def Res.out {α : Type} (r : Res α) (env : Env) (f : α → Out) : Out := match r with
  | .ok d => f d
  | .exc c fs => .exc env c fs
  | .err => .err
@[simp] theorem Res.out_ok {α : Type} (a : α) (env : Env) (f : α → Out) : (Res.ok a).out env f = f a := rfl
@[simp] theorem Res.out_exc {α : Type} (c fs) (env : Env) (f : α → Out) : (Res.exc c fs).out env f = .exc env c fs := rfl
@[simp] theorem Res.out_err {α : Type} (env : Env) (f : α → Out) : (Res.err).out env f = .err := rfl
def ifB {α : Type} (k : Bool) (a b : Env → α) (env : Env) : α := match k with
  | true => a env
  | false => b env
@[simp] theorem ifB_t {α : Type} (a b : Env → α) (env : Env) : ifB true a b env = a env := rfl
@[simp] theorem ifB_f {α : Type} (a b : Env → α) (env : Env) : ifB false a b env = b env := rfl
@[simp] theorem dSkip_ap (env : Env) : dSkip env = .nx env := rfl
@[simp] theorem dSeq_ap (a b : Env → Out) (env : Env) : dSeq a b env = (a env).seq b := by
  unfold dSeq; cases a env <;> rfl
@[simp] theorem dSet_ap (i : Nat) (den : Env → Res D) (env : Env) : dSet i den env = (den env).out env fun d => .nx (env.set i (.val d)) := by
  unfold dSet; cases den env <;> rfl
@[simp] theorem dOwn_ap (i : Nat) (den : Env → Res D) (env : Env) : dOwn i den env = (den env).out env fun d => .nx (env.set i (.own d)) := by
  unfold dOwn; cases den env <;> rfl
@[simp] theorem dRet_ap (den : Env → Res D) (env : Env) : dRet den env = (den env).out env Out.ret := by
  unfold dRet; cases den env <;> rfl
@[simp] theorem dDo_ap (den : Env → Res D) (env : Env) : dDo den env = (den env).out env fun _ => .nx env := by
  unfold dDo; cases den env <;> rfl
@[simp] theorem dIf_ap (t : Env → Res Bool) (a b : Env → Out) (env : Env) : dIf t a b env = (t env).out env fun k => ifB k a b env := by
  unfold dIf
  cases t env with
  | ok k => cases k <;> rfl
  | exc c fs => rfl
  | err => rfl
@[simp] theorem dPre_ap (g : Env → Env) (s : Env → Out) (env : Env) : dPre g s env = s (g env) := rfl
@[simp] theorem dAsg_ap (t : Tg) (den : Env → Res D) (env : Env) : dAsg t den env = (den env).out env fun d => match t.f d env with | some e => .nx e | none => .err := by
  unfold dAsg; cases den env <;> rfl
@[simp] theorem dPar_ap (i j : Nat) (dl : Env → Res (List D)) (env : Env) : dPar i j dl env = (dl env).out env fun ds => match ds with | [a, b] => .nx ((env.set i (.val a)).set j (.val b)) | _ => .err := by
  unfold dPar; cases dl env <;> rfl
@[simp] theorem dFor_ap (it : Env → Res (List D)) (tgt : Tg) (body : Env → Out) (kl : Env → Env) (env : Env) : dFor it tgt body kl env = (it env).out env fun ds => dLoop tgt.f body kl ds (kl env) := by
  unfold dFor; cases it env <;> rfl
@[simp] theorem kills_nil (env : Env) : kills [] env = env := rfl
@[simp] theorem kills_cons (i : Nat) (is : List Nat) (env : Env) : kills (i :: is) env = kills is (env.set i .un) := rfl
def frzS : Option Slot → Option Slot
  | some (.own d) => if flat d = true then some (.val d) else none
  | _ => none
@[simp] theorem frzs_nil (env : Env) : frzs [] env = env := rfl
@[simp] theorem frzs_cons (i : Nat) (is : List Nat) (env : Env) : frzs (i :: is) env = frzs is (frz i env) := rfl
@[simp] theorem frz_own (i : Nat) (env : Env) (ds : List D) (h : env[i]? = some (.own (.lst ds))) : frz i env = env.set i (.val (.lst ds)) := by
  unfold frz; rw [h]; rfl
@[simp] theorem dVar_ap (i : Nat) (env : Env) : dVar i env = match env[i]? with | some (.val d) => .ok d | _ => .err := rfl
@[simp] theorem dPeek_ap (i : Nat) (env : Env) : dPeek i env = match env[i]? with | some (.val d) => .ok d | some (.own d) => .ok d | _ => .err := rfl
@[simp] theorem dC_ap (d : D) (env : Env) : dC d env = .ok d := rfl
@[simp] theorem dNil_ap (env : Env) : dNil env = .ok [] := rfl
@[simp] theorem dCons_ap (a : Env → Res D) (r : Env → Res (List D)) (env : Env) : dCons a r env = (a env).bind fun d => (r env).bind fun ds => .ok (d :: ds) := rfl
@[simp] theorem dBin_ap (f : D → D → Option D) (a b : Env → Res D) (env : Env) : dBin f a b env = (a env).bind fun x => (b env).bind fun y => op? (f x y) := rfl
@[simp] theorem dUn_ap (f : D → Option D) (a : Env → Res D) (env : Env) : dUn f a env = (a env).bind fun x => op? (f x) := rfl
@[simp] theorem dBi_ap (f : List D → Option D) (a : Env → Res (List D)) (env : Env) : dBi f a env = (a env).bind fun x => op? (f x) := rfl
@[simp] theorem dT_ap (a : Env → Res D) (env : Env) : dT a env = (a env).bind asB := rfl
@[simp] theorem asB_bl (k : Bool) : asB (.bl k) = .ok k := rfl
@[simp] theorem dTru_ap (a : Env → Res D) (env : Env) : dTru a env = (a env).bind fun d => op? (tru d) := rfl
@[simp] theorem tru_bl (k : Bool) : tru (.bl k) = some k := rfl
@[simp] theorem tru_int (i : Int) : tru (.int i) = some (i != 0) := rfl
@[simp] theorem tru_non : tru .non = some false := rfl
@[simp] theorem dAnd_ap (a b : Env → Res Bool) (env : Env) : dAnd a b env = (a env).bind fun k => ifB k b (fun _ => .ok false) env := by
  unfold dAnd; cases a env with
  | ok k => cases k <;> rfl
  | exc c fs => rfl
  | err => rfl
@[simp] theorem dOr_ap (a b : Env → Res Bool) (env : Env) : dOr a b env = (a env).bind fun k => ifB k (fun _ => .ok true) b env := by
  unfold dOr; cases a env with
  | ok k => cases k <;> rfl
  | exc c fs => rfl
  | err => rfl
@[simp] theorem dNot_ap (a : Env → Res Bool) (env : Env) : dNot a env = (a env).bind fun k => .ok (!k) := rfl
def asBV (b : Env → Res D) (env : Env) (isand : Bool) : D → Res D
  | .bl true => if isand then b env else .ok (.bl true)
  | .bl false => if isand then .ok (.bl false) else b env
  | _ => .err
@[simp] theorem dAndV_ap (a b : Env → Res D) (env : Env) : dAndV a b env = (a env).bind fun x => match x with | .bl k => ifB k b (fun _ => .ok (.bl false)) env | _ => .err := by
  unfold dAndV; cases a env with
  | ok k => cases k <;> first | rfl | (rename_i k; cases k <;> rfl)
  | exc c fs => rfl
  | err => rfl
@[simp] theorem dOrV_ap (a b : Env → Res D) (env : Env) : dOrV a b env = (a env).bind fun x => match x with | .bl k => ifB k (fun _ => .ok (.bl true)) b env | _ => .err := by
  unfold dOrV; cases a env with
  | ok k => cases k <;> first | rfl | (rename_i k; cases k <;> rfl)
  | exc c fs => rfl
  | err => rfl
@[simp] theorem dNotV_ap (a : Env → Res D) (env : Env) : dNotV a env = (a env).bind fun x => match x with | .bl k => .ok (.bl (!k)) | _ => .err := rfl
@[simp] theorem dIfE_ap (t : Env → Res Bool) (a b : Env → Res D) (env : Env) : dIfE t a b env = (t env).bind fun k => ifB k a b env := by
  unfold dIfE; cases t env with
  | ok k => cases k <;> rfl
  | exc c fs => rfl
  | err => rfl
@[simp] theorem dLst_ap (l : Env → Res (List D)) (env : Env) : dLst l env = (l env).bind fun ds => if ds.length ≤ 16777216 then .ok (.lst ds) else .err := by unfold dLst; rw [sizeLine_eq]
@[simp] theorem dTup_ap (l : Env → Res (List D)) (env : Env) : dTup l env = (l env).bind fun ds => if ds.length ≤ 16777216 then .ok (.tup ds) else .err := by unfold dTup; rw [sizeLine_eq]
@[simp] theorem dPart_ap (a : Env → Res D) (env : Env) : dPart a env = (a env).bind fun d => match d with | .int i => .ok (some i) | _ => .err := rfl
@[simp] theorem dNoP_ap (env : Env) : dNoP env = .ok none := rfl
@[simp] theorem dSlice_ap (f : D → Option Int → Option Int → Option D) (a : Env → Res D) (l h : Env → Res (Option Int)) (env : Env) : dSlice f a l h env = (a env).bind fun x => (l env).bind fun lo => (h env).bind fun hi => op? (f x lo hi) := rfl
@[simp] theorem dCall_ap (n : Nat) (dfl : List D) (g : List D → Res D) (dl : Env → Res (List D)) (env : Env) : dCall n dfl g dl env = (dl env).bind fun ds => if ds.length + dfl.length = n then g (ds ++ dfl) else .err := rfl
@[simp] theorem dItL_lst (a : Env → Res D) (env : Env) : dItL a env = (a env).bind fun d => match d with | .lst ds => .ok ds | .scr ns => .ok (ns.map D.int) | _ => .err := rfl
@[simp] theorem dItT_ap (a : Env → Res D) (env : Env) : dItT a env = (a env).bind fun d => match d with | .tup ds => .ok ds | _ => .err := rfl
@[simp] theorem dItS_ap (a : Env → Res D) (env : Env) : dItS a env = (a env).bind fun d => match d with | .str z => .ok (signsD z) | _ => .err := rfl
@[simp] theorem dRng1_ap (a : Env → Res (List D)) (env : Env) : dRng1 a env = (a env).bind fun ds => match ds with | [.int j] => if j ≤ 1000000 ∧ -1000000000 ≤ j then .ok (rngD 0 j.toNat) else .err | _ => .err := rfl
@[simp] theorem dComp_ap (it : Env → Res (List D)) (tgt : Tg) (tst : Env → Res Bool) (elt : Env → Res D) (vs : List Nat) (env : Env) : dComp it tgt tst elt vs env = (it env).bind fun ds => match dCompL tgt.f tst elt (kills vs env) ds with | .ok xs => .ok (.lst xs) | _ => .err := rfl
@[simp] theorem dYes_ap (env : Env) : dYes env = .ok true := rfl
@[simp] theorem tgName_f (i : Nat) (d : D) (env : Env) : (tgName i).f d env = some (env.set i (.val d)) := rfl
@[simp] theorem tgTup_f (n : Nat) (r : List D → Env → Option Env) (sl : List Nat) (d : D) (env : Env) : (tgTup n r sl).f d env = match d with | .tup ds => if ds.length = n then r ds env else none | _ => none := rfl
@[simp] theorem tgsNil_ap (ds : List D) (env : Env) : tgsNil ds env = match ds with | [] => some env | _ => none := rfl
@[simp] theorem tgsCons_ap (t : Tg) (r : List D → Env → Option Env) (d : D) (ds : List D) (env : Env) : tgsCons t r (d :: ds) env = (t.f d env).bind fun e => r ds e := rfl
@[simp] theorem dLoop_nil (tgt : D → Env → Option Env) (body : Env → Out) (kl : Env → Env) (e : Env) : dLoop tgt body kl [] e = .nx e := rfl
@[simp] theorem dMut_ap (i : Nat) (f : List D → List D → Option (List D)) (dl : Env → Res (List D)) (env : Env) : dMut i f dl env = match env[i]? with
  | some (.own (.lst ds)) => (dl env).out env fun as => match f ds as with
    | some ds' => .nx (env.set i (.own (.lst ds')))
    | none => .err
  | _ => .err := by
  unfold dMut
  cases env[i]? with
  | none => rfl
  | some s => cases s with
    | un => rfl
    | val d => rfl
    | exn c fs => rfl
    | lab n => rfl
    | own d => cases d <;> first | rfl | (cases dl env <;> rfl)
@[simp] theorem outR_nx (e : Env) : outR (.nx e) = .ok .non := rfl
@[simp] theorem outR_ret (d : D) : outR (.ret d) = .ok d := rfl
@[simp] theorem outR_exc (e : Env) (c fs) : outR (.exc e c fs) = .exc c fs := rfl
/-! values -/
@[simp] theorem dAdd_int (i j : Int) : dAdd (.int i) (.int j) = some (.int (i + j)) := rfl
@[simp] theorem dSub_int (i j : Int) : dSub (.int i) (.int j) = some (.int (i - j)) := rfl
@[simp] theorem dMod_int (i j : Int) (h : 0 < j) : dMod (.int i) (.int j) = some (.int (i % j)) := by simp [dMod, dII, cMod, h]
theorem log_small {j : Nat} (h : j ≤ 1000000000000000000000000) : j.log2 < 9000 := by
  exact PySem.Flt.log2_lt_of (k := 9000) (by decide) (Nat.lt_of_le_of_lt h (Nat.lt_of_lt_of_le (by decide : 1000000000000000000000000 < 2 ^ 80) (Nat.pow_le_pow_right (by decide) (by decide))))
@[simp] theorem dFdiv_int (i j : Int) (h : 0 < j) (h2 : j ≤ 1000000000000000000000000) : dFdiv (.int i) (.int j) = some (.int (i / j)) := by
  have : j.natAbs.log2 < 9000 := log_small (by omega)
  simp [dFdiv, dII, cDiv, h, this]
@[simp] theorem dEq_int (i j : Int) : dEq (.int i) (.int j) = some (.bl (i == j)) := by simp [dEq, dEqB, D.py, PyData.depth, PyData.eqv]
@[simp] theorem dEq_str (i j : Str) : dEq (.str i) (.str j) = some (.bl (i == j)) := by simp [dEq, dEqB, D.py, PyData.depth, PyData.eqv]
@[simp] theorem dEq_bl (i j : Bool) : dEq (.bl i) (.bl j) = some (.bl (i == j)) := by simp [dEq, dEqB, D.py, PyData.depth, PyData.eqv]
@[simp] theorem dNe_int (i j : Int) : dNe (.int i) (.int j) = some (.bl (!(i == j))) := by simp [dNe, dEqB, D.py, PyData.depth, PyData.eqv]
@[simp] theorem dNe_str (i j : Str) : dNe (.str i) (.str j) = some (.bl (!(i == j))) := by simp [dNe, dEqB, D.py, PyData.depth, PyData.eqv]
@[simp] theorem dNe_bl (i j : Bool) : dNe (.bl i) (.bl j) = some (.bl (!(i == j))) := by simp [dNe, dEqB, D.py, PyData.depth, PyData.eqv]
@[simp] theorem dLt_int (i j : Int) : dLt (.int i) (.int j) = some (.bl (decide (i < j))) := rfl
@[simp] theorem dLe_int (i j : Int) : dLe (.int i) (.int j) = some (.bl (decide (i ≤ j))) := rfl
@[simp] theorem dGt_int (i j : Int) : dGt (.int i) (.int j) = some (.bl (decide (j < i))) := rfl
@[simp] theorem dGe_int (i j : Int) : dGe (.int i) (.int j) = some (.bl (decide (j ≤ i))) := rfl
@[simp] theorem dIs_bl (x : D) (k : Bool) : dIs x (.bl k) = some (.bl (x.isBl k)) := by cases x <;> rfl
@[simp] theorem dIs_non (x : D) : dIs x .non = some (.bl x.isNon) := by cases x <;> rfl
@[simp] theorem dIsNot_bl (x : D) (k : Bool) : dIsNot x (.bl k) = some (.bl (!x.isBl k)) := by cases x <;> rfl
@[simp] theorem dIsNot_non (x : D) : dIsNot x .non = some (.bl (!x.isNon)) := by cases x <;> rfl
@[simp] theorem isBl_bl (j k : Bool) : D.isBl k (.bl j) = (j == k) := rfl
@[simp] theorem bLen_str (z : Str) : bLen [.str z] = some (.int z.length) := rfl
@[simp] theorem bLen_lst (z : List D) : bLen [.lst z] = some (.int z.length) := rfl
@[simp] theorem bLen_tup (z : List D) : bLen [.tup z] = some (.int z.length) := rfl
@[simp] theorem bLen_scr (z : List Int) : bLen [.scr z] = some (.int z.length) := rfl
@[simp] theorem dIxV_lst (ds : List D) (i : Int) : dIxV (.lst ds) (.int i) = atI ds i := rfl
@[simp] theorem dIxV_tup (ds : List D) (i : Int) : dIxV (.tup ds) (.int i) = atI ds i := rfl
@[simp] theorem dIxV_scr (ns : List Int) (i : Int) : dIxV (.scr ns) (.int i) = (atI ns i).map D.int := rfl
@[simp] theorem dIxV_str (s : Str) (i : Int) : dIxV (.str s) (.int i) = (atI s.cps.toList i).map fun c => .str ⟨#[c]⟩ := rfl
theorem atI_get_nn {α : Type} {xs : List α} {i : Int} (h0 : 0 ≤ i) (h1 : i < xs.length) : atI xs i = xs[i.toNat]? := by
  unfold atI ixN; rw [if_pos h0, if_pos h1]; rfl
theorem atI_mem {α : Type} {xs : List α} {i : Int} (h0 : 0 ≤ i) (h1 : i < xs.length) : ∃ x, x ∈ xs ∧ atI xs i = some x := by
  have h : i.toNat < xs.length := by omega
  exact ⟨xs[i.toNat], List.getElem_mem h, by rw [atI_get_nn h0 h1]; simp [h]⟩
@[simp] theorem atI_0 {α : Type} (x : α) (xs : List α) : atI (x :: xs) 0 = some x := by simp [atI, ixN]
@[simp] theorem atI_1 {α : Type} (x y : α) (xs : List α) : atI (x :: y :: xs) 1 = some y := by
  rw [atI_get_nn (by decide) (by simp; omega)]; rfl
@[simp] theorem atI_2 {α : Type} (x y z : α) (xs : List α) : atI (x :: y :: z :: xs) 2 = some z := by
  rw [atI_get_nn (by decide) (by simp; omega)]; rfl
@[simp] theorem bIsB_ap (b : String) (d : D) : bIsB b d = if b ∈ tyKnown then (tyN d).map fun a => .bl (subB a b) else none := rfl
end Dn

/-! Ev2.lean -/
/-! How denotations of classes and exceptions are reckoned. -/
namespace Dn
open PySem L2
@[simp] theorem mkR_ok (c nf : Nat) (fs : List D) : mkR c nf (.ok fs) = if fs.length = nf then .ok (.obj c fs) else .err := rfl
@[simp] theorem mkR_exc (c nf c' : Nat) (fs) : mkR c nf (.exc c' fs) = .exc c' fs := rfl
@[simp] theorem mkR_err (c nf : Nat) : mkR c nf .err = .err := rfl
@[simp] theorem dMake_ap (c nf n : Nat) (dfl : List D) (g : Nat → List D → List D → Res (List D)) (dl : Env → Res (List D)) (env : Env) : dMake c nf n dfl g dl env = (dl env).bind fun ds => if ds.length + dfl.length = n then mkR c nf (g c [] (ds ++ dfl)) else .err := rfl
@[simp] theorem dMakeK_ap (c nf n nk N : Nat) (g : Nat → List D → List D → Res (List D)) (dl dk : Env → Res (List D)) (env : Env) : dMakeK c nf n nk N g dl dk env = (dl env).bind fun ds => (dk env).bind fun zs => if ds.length = n ∧ zs.length = nk ∧ n + nk = N then mkR c nf (g c [] (ds ++ zs)) else .err := rfl
@[simp] theorem dInit_ap (n N : Nat) (body : Env → Out) (c : Nat) (ds0 ds : List D) : dInit n N body c ds0 ds = outI c (body (envI n N c ds0 ds)) := rfl
@[simp] theorem outI_nx (c c' : Nat) (ds : List D) (r : Env) : outI c (.nx (.own (.obj c' ds) :: r)) = if c' = c then .ok ds else .err := rfl
@[simp] theorem outI_exc (c c' : Nat) (e : Env) (fs) : outI c (.exc e c' fs) = .exc c' fs := rfl
def Out.nxt (o : Option Out) : Out := o.getD .err
@[simp] theorem dFst_ap (tab : List (Nat × Nat)) (i : Nat) (den : Env → Res D) (env : Env) : dFst tab i den env = (den env).out env fun d => match env[i]? with
    | some (.own (.obj c ds)) => match tab.lookup c with
      | some j => if j < ds.length then .nx (env.set i (.own (.obj c (ds.set j d)))) else if j = ds.length then .nx (env.set i (.own (.obj c (ds ++ [d])))) else .err
      | none => .err
    | _ => .err := by
  unfold dFst; cases den env <;> rfl
def Res.outI' (r : Res (List D)) (e0 : Env) (f : List D → Out) : Out := match r with
  | .ok d => f d
  | .exc c fs => .exc e0 c fs
  | .err => .err
@[simp] theorem outI'_ok (d : List D) (e0 : Env) (f : List D → Out) : Res.outI' (.ok d) e0 f = f d := rfl
@[simp] theorem outI'_exc (c fs) (e0 : Env) (f : List D → Out) : Res.outI' (.exc c fs) e0 f = .exc e0 c fs := rfl
@[simp] theorem outI'_err (e0 : Env) (f : List D → Out) : Res.outI' .err e0 f = .err := rfl
@[simp] theorem dSup_ap (i n : Nat) (dfl : List D) (g : Nat → List D → List D → Res (List D)) (dl : Env → Res (List D)) (env : Env) : dSup i n dfl g dl env = match env[i]? with
  | some (.own (.obj c ds0)) => (dl env).out env fun ds => if ds.length + dfl.length = n then (g c ds0 (ds ++ dfl)).outI' (env.set i .un) (fun ds' => .nx (env.set i (.own (.obj c ds')))) else .err
  | _ => .err := by
  unfold dSup
  generalize env[i]? = o
  rcases o with _ | s
  · rfl
  · cases s with
    | un => rfl
    | val d => rfl
    | exn c fs => rfl
    | lab n => rfl
    | own d =>
      cases d with
      | obj c ds0 =>
        cases dl env with
        | exc c fs => rfl
        | err => rfl
        | ok ds =>
          simp only [Res.out_ok]
          split
          · cases g c ds0 (ds ++ dfl) <;> rfl
          · rfl
      | _ => rfl
@[simp] theorem dMeth_ap (n : Nat) (dfl : List D) (tab : List (Nat × (List D → Res D))) (da : Env → Res D) (dl : Env → Res (List D)) (env : Env) : dMeth n dfl tab da dl env = (da env).bind fun d => match d with
  | .obj c fs => match tab.lookup c with
    | some g => (dl env).bind fun ds => if (ds.length + 1) + dfl.length = n then g (.obj c fs :: (ds ++ dfl)) else .err
    | none => .err
  | _ => .err := rfl
@[simp] theorem dFld_obj (tab : List (Nat × Nat)) (c : Nat) (ds : List D) : dFld tab (.obj c ds) = (tab.lookup c).bind fun j => ds[j]? := rfl
@[simp] theorem bIsO_obj (tab : List (Nat × Bool)) (c : Nat) (ds : List D) : bIsO tab (.obj c ds) = (tab.lookup c).map .bl := rfl
@[simp] theorem dRaise0_ap (c : Nat) (env : Env) : dRaise0 c env = .exc env c none := rfl
@[simp] theorem dRaise1_ap (c : Nat) (da : Env → Res D) (env : Env) : dRaise1 c da env = (da env).out env fun d => .exc env c (some [d]) := by
  unfold dRaise1; cases da env <;> rfl
def Out.catch (o : Out) (f : Env → Nat → Option (List D) → Out) : Out := match o with
  | .exc e c fs => f e c fs
  | o => o
@[simp] theorem Out.catch_nx (e : Env) (f : Env → Nat → Option (List D) → Out) : (Out.nx e).catch f = .nx e := rfl
@[simp] theorem Out.catch_ret (d : D) (f : Env → Nat → Option (List D) → Out) : (Out.ret d).catch f = .ret d := rfl
@[simp] theorem Out.catch_bk (e : Env) (f : Env → Nat → Option (List D) → Out) : (Out.bk e).catch f = .bk e := rfl
@[simp] theorem Out.catch_ct (e : Env) (f : Env → Nat → Option (List D) → Out) : (Out.ct e).catch f = .ct e := rfl
@[simp] theorem Out.catch_exc (e : Env) (c fs) (f : Env → Nat → Option (List D) → Out) : (Out.exc e c fs).catch f = f e c fs := rfl
@[simp] theorem Out.catch_err (f : Env → Nat → Option (List D) → Out) : (Out.err).catch f = .err := rfl
@[simp] theorem dTryAs_ap (tab : List (Nat × Bool)) (i : Nat) (body suite : Env → Out) (env : Env) : dTryAs tab i body suite env = (body env).catch fun e c fs => match tab.lookup c with
    | some true => outS (fun e => strip (e.set i .un)) (suite ((strip e).set i (.exn c fs)))
    | some false => .exc e c fs
    | none => .err := by
  unfold dTryAs; cases body env <;> rfl
@[simp] theorem dTryO_ap (tab : List (Nat × Bool)) (body suite : Env → Out) (env : Env) : dTryO tab body suite env = (body env).catch fun e c fs => match tab.lookup c with
    | some true => outS id (suite e)
    | some false => .exc e c fs
    | none => .err := by
  unfold dTryO; cases body env <;> rfl
@[simp] theorem outS_nx (f : Env → Env) (e : Env) : outS f (.nx e) = .nx (f e) := rfl
@[simp] theorem outS_bk (f : Env → Env) (e : Env) : outS f (.bk e) = .bk (f e) := rfl
@[simp] theorem outS_ct (f : Env → Env) (e : Env) : outS f (.ct e) = .ct (f e) := rfl
@[simp] theorem outS_ret (f : Env → Env) (d : D) : outS f (.ret d) = .ret d := rfl
@[simp] theorem strip_nil : strip [] = [] := rfl
@[simp] theorem strip_cons (s : Slot) (e : Env) : strip (s :: e) = unx s :: strip e := rfl
@[simp] theorem unx_un : unx .un = .un := rfl
@[simp] theorem unx_val (d : D) : unx (.val d) = .val d := rfl
@[simp] theorem unx_own (d : D) : unx (.own d) = .own d := rfl
@[simp] theorem unx_exn (c fs) : unx (.exn c fs) = .un := rfl
@[simp] theorem dIsE_ap (tab : List (Nat × Bool)) (i : Nat) (env : Env) : dIsE tab i env = match env[i]? with
  | some (.exn c _) => op? ((tab.lookup c).map D.bl)
  | _ => .err := rfl
@[simp] theorem dXf_ap (tab : List (Nat × Nat)) (i : Nat) (env : Env) : dXf tab i env = match env[i]? with
  | some (.exn c (some ds)) => op? ((tab.lookup c).bind fun j => ds[j]?)
  | _ => .err := rfl
@[simp] theorem bList_lst (ds : List D) : bList [.lst ds] = some (.lst ds) := rfl
@[simp] theorem bList_tup (ds : List D) : bList [.tup ds] = some (.lst ds) := rfl
@[simp] theorem bList_scr (ns : List Int) : bList [.scr ns] = some (.lst (ns.map D.int)) := rfl
@[simp] theorem bInt_int (i : Int) : bInt [.int i] = some (.int i) := rfl
@[simp] theorem bInt_bl (b : Bool) : bInt [.bl b] = some (.int (if b then 1 else 0)) := rfl
@[simp] theorem dFn_ap (n N : Nat) (body : Env → Out) (ds : List D) : dFn n N body ds = outR (body (env0 n N ds)) := rfl
end Dn

/-! Pl.lean -/
namespace Dn
open L2 PySem
/-! general laws of loops and comprehensions -/
theorem dCompL_map {α : Type} {tgt : D → Env → Option Env} {tst : Env → Res Bool} {elt : Env → Res D} {e : Env} (emb : α → D) (p : α → Bool) (g : α → D) : ∀ (ts : List α),
    (∀ t ∈ ts, ∃ e1, tgt (emb t) e = some e1 ∧ tst e1 = .ok (p t) ∧ (p t = true → elt e1 = .ok (g t))) → dCompL tgt tst elt e (ts.map emb) = .ok ((ts.filter p).map g)
  | [], _ => rfl
  | t :: ts, h => by
    obtain ⟨e1, h1, h2, h3⟩ := h t List.mem_cons_self
    have ih := dCompL_map emb p g ts fun t ht => h t (List.mem_cons_of_mem _ ht)
    rw [List.map_cons]
    unfold dCompL
    rw [h1]
    simp only [h2]
    cases z : p t with
    | false => simp only [z]; rw [ih, List.filter_cons_of_neg (by simp [z])]
    | true => simp only [z, h3 z, ih]; rw [List.filter_cons_of_pos z, List.map_cons]
theorem dCompL_all {α : Type} {tgt : D → Env → Option Env} {elt : Env → Res D} {e : Env} (emb : α → D) (g : α → D) (ts : List α)
    (h : ∀ t ∈ ts, ∃ e1, tgt (emb t) e = some e1 ∧ elt e1 = .ok (g t)) : dCompL tgt dYes elt e (ts.map emb) = .ok (ts.map g) := by
  have := dCompL_map (tst := dYes) emb (fun _ => true) g ts fun t ht => let ⟨e1, a, b⟩ := h t ht; ⟨e1, a, rfl, fun _ => b⟩
  rw [this, List.filter_eq_self.mpr fun _ _ => rfl]
theorem dLoop_const {α : Type} {tgt : D → Env → Option Env} {body : Env → Out} {kl : Env → Env} {e : Env} (emb : α → D) : ∀ (ts : List α),
    (∀ t ∈ ts, ∃ e1 e2, tgt (emb t) e = some e1 ∧ (body e1 = .nx e2 ∨ body e1 = .ct e2) ∧ kl e2 = e) → dLoop tgt body kl (ts.map emb) e = .nx e
  | [], _ => rfl
  | t :: ts, h => by
    obtain ⟨e1, e2, h1, h2, h3⟩ := h t List.mem_cons_self
    have ih := dLoop_const emb ts fun t ht => h t (List.mem_cons_of_mem _ ht)
    rw [List.map_cons]
    unfold dLoop
    rw [h1]
    rcases h2 with h2 | h2 <;> simp only [h2, h3, ih]
theorem bools_map {α : Type} (f : α → Bool) : ∀ ts : List α, bools (ts.map fun t => D.bl (f t)) = some (ts.map f)
  | [] => rfl
  | t :: ts => by simp [bools, bools_map f ts]
theorem bAll_map {α : Type} (f : α → Bool) (ts : List α) : bAll [.lst (ts.map fun t => D.bl (f t))] = some (.bl (ts.all f)) := by
  simp [bAll, bools_map f ts, List.all_map]
theorem bAny_map {α : Type} (f : α → Bool) (ts : List α) : bAny [.lst (ts.map fun t => D.bl (f t))] = some (.bl (ts.any f)) := by
  simp [bAny, bools_map f ts, List.any_map]
/-! names -/
def letters : Str := "abcdefghijklmnopqrstuvwxyz"
def isLet (c : Nat) : Bool := decide (c ∈ letters.cps)
def isNm (s : Str) : Bool := decide (1 ≤ s.length) && (decide (s.length ≤ 8) && s.cps.all isLet)
theorem letters_eq : letters.cps.toList = List.range' 97 26 := by decide +kernel
theorem isLet_iff (c : Nat) : isLet c = true ↔ 97 ≤ c ∧ c < 123 := by
  unfold isLet; rw [decide_eq_true_iff, ← Array.mem_toList_iff, letters_eq, List.mem_range'_1]
theorem str_ext {a b : Str} (h : a.cps.toList = b.cps.toList) : a = b := by
  cases a; cases b; congr; exact Array.ext' (by simpa using h)
theorem str_len (a : Str) : a.length = a.cps.toList.length := by simp [Str.length]
theorem sub1_sign (c : Nat) (z : Str) : dIn (.str ⟨#[c]⟩) (.str z) = some (.bl (decide (c ∈ z.cps.toList))) := by
  simp [dIn, dInB, D.sub1]
/-! arithmetic -/
theorem dPow_int {i j k : Int} (h : cPow i j = true) (e : i ^ j.toNat = k) : dPow (.int i) (.int j) = some (.int k) := by subst e; exact if_pos h
theorem dMul_int {i j k : Int} (h : cMul i j = true) (e : i * j = k) : dMul (.int i) (.int j) = some (.int k) := by
  subst e
  show (if cMul i j = true then some (D.int (i * j)) else none).or _ = _
  rw [if_pos h]; rfl
end Dn

/-! g.dens -/
namespace Lw
open PySem PySem.Spec PyProof.Rows L2 Dn
/-! what the defs do -/
def ce_is_name_0 : Dn.Env → Res D :=
 (dBin dIn (dPeek 1) (dC (.str "abcdefghijklmnopqrstuvwxyz")))
def body_is_name : Dn.Env → Out :=
 (dSeq (dIf (dOr (dNot (dTru (dUn (bIsB "str") (dPeek 0)))) (dOr (dT (dBin dLt (dBi bLen (dCons (dPeek 0) dNil)) (dC (.int 1)))) (dT (dBin dGt (dBi bLen (dCons (dPeek 0) dNil)) (dC (.int 8))))))
 (dRet (dC (.bl false)))
 dSkip)
 (dRet (dBi bAll (dCons (dComp (dItS (dVar 0)) (tgName 1) dYes ce_is_name_0 [1]) dNil))))
def den_is_name : List D → Res D := dFn 1 2 body_is_name
def body_checked : Dn.Env → Out :=
 (dSeq (dIf (dNot (dTru (dCall 1 [] den_is_name (dCons (dVar 0) dNil))))
 (dRaise0 1)
 dSkip)
 (dRet (dVar 0)))
def den_checked : List D → Res D := dFn 1 1 body_checked
def body__law_nth : Dn.Env → Out :=
 (dRet (dIfE (dT (dBin dLt (dPeek 1) (dBi bLen (dCons (dPeek 0) dNil)))) (dBin dIxV (dPeek 0) (dPeek 1)) (dC (.int 0))))
def den__law_nth : List D → Res D := dFn 2 2 body__law_nth
def lb__law_called_0 : Dn.Env → Out :=
 (dSeq (dSet 2 (dBin dAdd (dBin dIxV (dC (.str "abcdefghijklmnopqrstuvwxyz")) (dBin dMod (dPeek 1) (dC (.int 26)))) (dPeek 2)))
 (dSet 1 (dBin dFdiv (dPeek 1) (dC (.int 26)))))
def body__law_called : Dn.Env → Out :=
 (dSeq (dIf (dT (dBin dEq (dBin dMod (dPeek 0) (dC (.int 2))) (dC (.int 0))))
 (dRet (dBin dIxV (dLst (dCons (dC (.str "a")) (dCons (dC (.str "b")) (dCons (dC (.str "c")) (dCons (dC (.str "ab")) (dCons (dC (.str "ba")) (dCons (dC (.str "aa")) (dCons (dC (.str "self")) (dCons (dC (.str "abcdefgh")) (dCons (dC (.str "z")) (dCons (dC (.str "zz")) dNil))))))))))) (dBin dMod (dBin dFdiv (dPeek 0) (dC (.int 2))) (dC (.int 10)))))
 dSkip)
 (dSeq (dSet 1 (dBin dFdiv (dPeek 0) (dC (.int 16))))
 (dSeq (dSet 2 (dC (.str "")))
 (dSeq (dFor (dRng1 (dCons (dBin dAdd (dC (.int 1)) (dBin dMod (dBin dFdiv (dPeek 0) (dC (.int 2))) (dC (.int 8)))) dNil)) (tgName 3)
 lb__law_called_0 (kills [3]))
 (dRet (dVar 2))))))
def den__law_called : List D → Res D := dFn 1 4 body__law_called
def body__law_no_name : Dn.Env → Out :=
 (dSeq (dSet 1 (dCall 1 [] den__law_called (dCons (dBin dFdiv (dPeek 0) (dC (.int 8960))) dNil)))
 (dSeq (dSet 2 (dBin dMod (dBin dMod (dBin dFdiv (dPeek 0) (dC (.int 16))) (dC (.int 8))) (dBi bLen (dCons (dPeek 1) dNil))))
 (dSeq (dSet 3 (dLst (dCons (dC (.str "")) (dCons (dBin dAdd (dPeek 1) (dC (.str "abcdefgh"))) (dCons (dC .non) (dCons (dC (.int 7)) (dCons (dC (.bl true)) (dCons (dLst (dCons (dVar 1) dNil)) (dCons (dTup (dCons (dVar 1) dNil)) (dCons (dUn mUpper (dVar 1)) dNil))))))))))
 (dSeq (dIf (dT (dBin dLt (dBin dMod (dPeek 0) (dC (.int 16))) (dC (.int 8))))
 (dRet (dBin dIxV (dPeek 3) (dBin dMod (dPeek 0) (dC (.int 16)))))
 dSkip)
 (dSeq (dIf (dT (dBin dEq (dBin dMod (dPeek 0) (dC (.int 16))) (dC (.int 15))))
 (dRet (dBin dAdd (dPeek 1) (dC (.str "\n"))))
 dSkip)
 (dSeq (dSet 4 (dC (.str " !\"#$&'()*+,-./0123456789:;<=>?@ABCDEFGHIJKLMNOPQRSTUVWXYZ[\\]^_`{|}~\t\n")))
 (dRet (dBin dAdd (dBin dAdd (dSlice dSl (dPeek 1) dNoP (dPart (dVar 2))) (dBin dIxV (dPeek 4) (dBin dMod (dBin dFdiv (dPeek 0) (dC (.int 128))) (dC (.int 70))))) (dSlice dSl (dPeek 1) (dPart (dBin dAdd (dPeek 2) (dBi bInt (dCons (dBin dLt (dBin dMod (dPeek 0) (dC (.int 16))) (dC (.int 14))) dNil)))) dNoP)))))))))
def den__law_no_name : List D → Res D := dFn 1 5 body__law_no_name
def body__law_cover : Dn.Env → Out :=
 (dSeq (dSet 2 (dCall 1 [] den__law_called (dCons (dBin dFdiv (dPeek 0) (dC (.int 32))) dNil)))
 (dSeq (dIf (dAnd (dT (dBin dNe (dPeek 1) (dLst dNil))) (dT (dBin dEq (dBin dMod (dBin dFdiv (dPeek 0) (dC (.int 8))) (dC (.int 2))) (dC (.int 1)))))
 (dSet 2 (dBin dIxV (dPeek 1) (dBin dMod (dBin dFdiv (dPeek 0) (dC (.int 16))) (dBi bLen (dCons (dPeek 1) dNil)))))
 dSkip)
 (dSeq (dSet 3 (dCall 1 [] den__law_called (dCons (dBin dFdiv (dPeek 0) (dC (.int 640))) dNil)))
 (dSeq (dSet 4 (dBin dSub (dBin dMod (dBin dFdiv (dPeek 0) (dC (.int 16))) (dC (.int 41))) (dC (.int 20))))
 (dSeq (dIf (dT (dBin dEq (dBin dMod (dBin dFdiv (dPeek 0) (dC (.int 16))) (dC (.int 3))) (dC (.int 2))))
 (dSet 4 (dBin dAdd (dBin dSub (dBin dMod (dBin dFdiv (dPeek 0) (dC (.int 48))) (dBin dSub (dBin dMul (dC (.int 2)) (dBin dPow (dC (.int 10)) (dC (.int 60)))) (dC (.int 1)))) (dBin dPow (dC (.int 10)) (dC (.int 60)))) (dC (.int 1))))
 dSkip)
 (dSeq (dSet 5 (dBin dMod (dPeek 0) (dC (.int 8))))
 (dSeq (dIf (dT (dBin dEq (dPeek 5) (dC (.int 0))))
 (dRet (dTup (dCons (dC (.str "ahead")) (dCons (dVar 4) dNil))))
 dSkip)
 (dSeq (dIf (dT (dBin dLt (dPeek 5) (dC (.int 3))))
 (dRet (dTup (dCons (dBin dIxV (dLst (dCons (dC (.str "with")) (dCons (dC (.str "spare")) dNil))) (dBin dSub (dPeek 5) (dC (.int 1)))) (dCons (dVar 2) (dCons (dVar 4) dNil)))))
 dSkip)
 (dSeq (dIf (dT (dBin dEq (dPeek 5) (dC (.int 3))))
 (dRet (dTup (dCons (dC (.str "without")) (dCons (dVar 2) dNil))))
 dSkip)
 (dSeq (dIf (dT (dBin dEq (dPeek 5) (dC (.int 4))))
 (dRet (dTup (dCons (dC (.str "exchange")) (dCons (dVar 2) (dCons (dVar 3) dNil)))))
 dSkip)
 (dRet (dBin dIxV (dLst (dCons (dTup (dCons (dC (.str "swallow")) dNil)) (dCons (dTup (dCons (dC (.str "byplace")) dNil)) (dCons (dTup (dCons (dC (.str "byname")) dNil)) dNil)))) (dBin dSub (dPeek 5) (dC (.int 5)))))))))))))))
def den__law_cover : List D → Res D := dFn 2 6 body__law_cover
def body_Ahead_init : Dn.Env → Out :=
 (dFst [(12, 0)] 0 (dVar 1))
def den_Ahead_init : Nat → List D → List D → Res (List D) := dInit 1 2 body_Ahead_init
def body_Exchange_init : Dn.Env → Out :=
 (dSeq (dFst [(16, 0)] 0 (dCall 1 [] den_checked (dCons (dVar 1) dNil)))
 (dFst [(16, 1)] 0 (dCall 1 [] den_checked (dCons (dVar 2) dNil))))
def den_Exchange_init : Nat → List D → List D → Res (List D) := dInit 2 3 body_Exchange_init
def body_Spare_init : Dn.Env → Out :=
 (dSeq (dFst [(14, 0)] 0 (dCall 1 [] den_checked (dCons (dVar 1) dNil)))
 (dFst [(14, 1)] 0 (dVar 2)))
def den_Spare_init : Nat → List D → List D → Res (List D) := dInit 2 3 body_Spare_init
def body_With_init : Dn.Env → Out :=
 (dSeq (dFst [(13, 0)] 0 (dCall 1 [] den_checked (dCons (dVar 1) dNil)))
 (dFst [(13, 1)] 0 (dVar 2)))
def den_With_init : Nat → List D → List D → Res (List D) := dInit 2 3 body_With_init
def body_Without_init : Dn.Env → Out :=
 (dFst [(15, 0)] 0 (dCall 1 [] den_checked (dCons (dVar 1) dNil)))
def den_Without_init : Nat → List D → List D → Res (List D) := dInit 1 2 body_Without_init
def body__law_cover_of : Dn.Env → Out :=
 (dSeq (dIf (dT (dBin dEq (dBin dIxV (dPeek 0) (dC (.int 0))) (dC (.str "ahead"))))
 (dRet (dMake 12 1 1 [] den_Ahead_init (dCons (dBin dIxV (dPeek 0) (dC (.int 1))) dNil)))
 dSkip)
 (dSeq (dIf (dT (dBin dEq (dBin dIxV (dPeek 0) (dC (.int 0))) (dC (.str "with"))))
 (dRet (dMake 13 2 2 [] den_With_init (dCons (dBin dIxV (dPeek 0) (dC (.int 1))) (dCons (dBin dIxV (dPeek 0) (dC (.int 2))) dNil))))
 dSkip)
 (dSeq (dIf (dT (dBin dEq (dBin dIxV (dPeek 0) (dC (.int 0))) (dC (.str "spare"))))
 (dRet (dMake 14 2 2 [] den_Spare_init (dCons (dBin dIxV (dPeek 0) (dC (.int 1))) (dCons (dBin dIxV (dPeek 0) (dC (.int 2))) dNil))))
 dSkip)
 (dSeq (dIf (dT (dBin dEq (dBin dIxV (dPeek 0) (dC (.int 0))) (dC (.str "without"))))
 (dRet (dMake 15 1 1 [] den_Without_init (dCons (dBin dIxV (dPeek 0) (dC (.int 1))) dNil)))
 dSkip)
 (dSeq (dIf (dT (dBin dEq (dBin dIxV (dPeek 0) (dC (.int 0))) (dC (.str "exchange"))))
 (dRet (dMake 16 2 2 [] den_Exchange_init (dCons (dBin dIxV (dPeek 0) (dC (.int 1))) (dCons (dBin dIxV (dPeek 0) (dC (.int 2))) dNil))))
 dSkip)
 (dSeq (dIf (dT (dBin dEq (dBin dIxV (dPeek 0) (dC (.int 0))) (dC (.str "swallow"))))
 (dRet (dC (.obj 17 [])))
 dSkip)
 (dSeq (dIf (dT (dBin dEq (dBin dIxV (dPeek 0) (dC (.int 0))) (dC (.str "byplace"))))
 (dRet (dC (.obj 18 [])))
 dSkip)
 (dRet (dC (.obj 19 []))))))))))
def den__law_cover_of : List D → Res D := dFn 1 1 body__law_cover_of
def body__law_sorts : Dn.Env → Out :=
 (dSeq (dSet 1 (dLst (dCons (dUn (bIsO [(12, true), (13, false), (14, false), (15, false), (16, false), (17, false), (18, false), (19, false)]) (dPeek 0)) (dCons (dUn (bIsO [(12, false), (13, true), (14, false), (15, false), (16, false), (17, false), (18, false), (19, false)]) (dPeek 0)) (dCons (dUn (bIsO [(12, false), (13, false), (14, true), (15, false), (16, false), (17, false), (18, false), (19, false)]) (dPeek 0)) (dCons (dUn (bIsO [(12, false), (13, false), (14, false), (15, true), (16, false), (17, false), (18, false), (19, false)]) (dPeek 0)) dNil))))))
 (dSeq (dSet 1 (dBin dAdd (dPeek 1) (dLst (dCons (dUn (bIsO [(12, false), (13, false), (14, false), (15, false), (16, true), (17, false), (18, false), (19, false)]) (dPeek 0)) (dCons (dUn (bIsO [(12, false), (13, false), (14, false), (15, false), (16, false), (17, true), (18, false), (19, false)]) (dPeek 0)) (dCons (dUn (bIsO [(12, false), (13, false), (14, false), (15, false), (16, false), (17, false), (18, true), (19, false)]) (dPeek 0)) dNil))))))
 (dRet (dBin dAdd (dPeek 1) (dLst (dCons (dUn (bIsO [(12, false), (13, false), (14, false), (15, false), (16, false), (17, false), (18, false), (19, true)]) (dPeek 0)) dNil))))))
def den__law_sorts : List D → Res D := dFn 1 2 body__law_sorts
def body__law_bad_made : Dn.Env → Out :=
 (dSeq (dIf (dT (dBin dEq (dPeek 0) (dC (.int 0))))
 (dDo (dMake 13 2 2 [] den_With_init (dCons (dVar 2) (dCons (dC (.int 1)) dNil))))
 dSkip)
 (dSeq (dIf (dT (dBin dEq (dPeek 0) (dC (.int 1))))
 (dDo (dMake 14 2 2 [] den_Spare_init (dCons (dVar 2) (dCons (dC (.int 1)) dNil))))
 dSkip)
 (dSeq (dIf (dT (dBin dEq (dPeek 0) (dC (.int 2))))
 (dDo (dMake 15 1 1 [] den_Without_init (dCons (dVar 2) dNil)))
 dSkip)
 (dSeq (dIf (dT (dBin dEq (dPeek 0) (dC (.int 3))))
 (dDo (dMake 16 2 2 [] den_Exchange_init (dCons (dVar 2) (dCons (dVar 1) dNil))))
 dSkip)
 (dSeq (dIf (dT (dBin dEq (dPeek 0) (dC (.int 4))))
 (dDo (dMake 16 2 2 [] den_Exchange_init (dCons (dVar 1) (dCons (dVar 2) dNil))))
 dSkip)
 (dIf (dT (dBin dEq (dPeek 0) (dC (.int 5))))
 (dDo (dMake 16 2 2 [] den_Exchange_init (dCons (dVar 2) (dCons (dVar 2) dNil))))
 dSkip))))))
def den__law_bad_made : List D → Res D := dFn 3 3 body__law_bad_made
def tb__law_refused_0 : Dn.Env → Out :=
 (dDo (dCall 3 [] den__law_bad_made (dCons (dVar 0) (dCons (dVar 1) (dCons (dVar 2) dNil)))))
def ts__law_refused_1 : Dn.Env → Out :=
 (dSeq (dSet 3 (dAndV (dIsE [(1, true)] 5) (dIsE [(1, true)] 5)))
 (dSet 4 (dIsE [(1, false)] 5)))
def body__law_refused : Dn.Env → Out :=
 (dSeq (dSet 3 (dC (.bl false)))
 (dSeq (dSet 4 (dC (.bl false)))
 (dSeq (dTryAs [(1, true)] 5 tb__law_refused_0 ts__law_refused_1)
 (dRet (dAndV (dVar 3) (dNotV (dVar 4)))))))
def den__law_refused : List D → Res D := dFn 3 6 body__law_refused
def ce_law_0 : Dn.Env → Res D :=
 (dBin dEq (dPeek 5) (dBin dIxV (dPeek 3) (dC (.int 0))))
def lb_law_1 : Dn.Env → Out :=
 (dSeq (dSet 3 (dCall 2 [] den__law_cover (dCons (dVar 2) (dCons (dLst dNil) dNil))))
 (dSeq (dSet 4 (dCall 1 [] den__law_cover_of (dCons (dVar 3) dNil)))
 (dSeq (dIf (dOr (dNot (dTru (dUn (bIsO [(12, true), (13, true), (14, true), (15, true), (16, true), (17, true), (18, true), (19, true)]) (dPeek 4)))) (dT (dBin dNe (dCall 1 [] den__law_sorts (dCons (dVar 4) dNil)) (dComp (dItL (dVar 1)) (tgName 5) dYes ce_law_0 [5]))))
 (dRet (dC (.bl false)))
 dSkip)
 (dIf (dNot (dTru (dCall 3 [] den__law_refused (dCons (dBin dMod (dBin dFdiv (dPeek 2) (dC (.int 8))) (dC (.int 6))) (dCons (dCall 1 [] den__law_called (dCons (dBin dFdiv (dPeek 2) (dC (.int 48))) dNil)) (dCons (dCall 1 [] den__law_no_name (dCons (dBin dFdiv (dPeek 2) (dC (.int 48))) dNil)) dNil))))))
 (dRet (dC (.bl false)))
 dSkip))))
def body_law : Dn.Env → Out :=
 (dSeq (dSet 1 (dLst (dCons (dC (.str "ahead")) (dCons (dC (.str "with")) (dCons (dC (.str "spare")) (dCons (dC (.str "without")) (dCons (dC (.str "exchange")) (dCons (dC (.str "swallow")) (dCons (dC (.str "byplace")) (dCons (dC (.str "byname")) dNil))))))))))
 (dSeq (dFor (dItL (dBin dAdd (dSlice dSl (dPeek 0) dNoP (dPart (dC (.int 40)))) (dLst (dCons (dBin dAdd (dCall 2 [] den__law_nth (dCons (dVar 0) (dCons (dC (.int 0)) dNil))) (dC (.int 3))) dNil)))) (tgName 2)
 lb_law_1 (kills [2, 3, 4]))
 (dRet (dC (.bl true)))))
def den_law : List D → Res D := dFn 1 6 body_law
end Lw

/-! Pure.lean -/
namespace Lw
open Dn L2 PySem
theorem is_name_str (s : Str) : den_is_name [.str s] = .ok (.bl (isNm s)) := by
  have hc : dCompL (tgName 1).f dYes ce_is_name_0 [.val (.str s), .un] (signsD s) = .ok (s.cps.toList.map fun c => D.bl (isLet c)) :=
    dCompL_all (fun c => D.str ⟨#[c]⟩) _ _ fun c _ => ⟨_, rfl, by simp [ce_is_name_0, sub1_sign]; rfl⟩
  have hs : subB "str" "str" = true := by decide
  have hk : "str" ∈ tyKnown := by decide
  unfold isNm
  by_cases h1 : s.length < 1
  · have e1 : decide ((s.length : Int) < 1) = true := decide_eq_true (by omega)
    simp [den_is_name, dFn, body_is_name, env0, tyN, hs, hk, e1]; omega
  · have e1 : decide ((s.length : Int) < 1) = false := decide_eq_false (by omega)
    by_cases h2 : 8 < s.length
    · have e2 : decide ((8 : Int) < s.length) = true := decide_eq_true (by omega)
      simp [den_is_name, dFn, body_is_name, env0, tyN, hs, hk, e1, e2]; omega
    · have e2 : decide ((8 : Int) < s.length) = false := decide_eq_false (by omega)
      have e3 : 1 ≤ s.length := by omega
      have e4 : s.length ≤ 8 := by omega
      simp [den_is_name, dFn, body_is_name, env0, tyN, hs, hk, e1, e2, hc, bAll_map, e3, e4]

theorem is_name_other (d : D) (a : String) (h : tyN d = some a) (hn : (a == "str") = false) (hb : subB a "str" = false) : den_is_name [d] = .ok (.bl false) := by
  have hk : "str" ∈ tyKnown := by decide
  simp [den_is_name, dFn, body_is_name, env0, h, hk, hb]
theorem nm_iff (s : Str) : isNm s = true ↔ 1 ≤ s.length ∧ s.length ≤ 8 ∧ ∀ c ∈ s.cps.toList, isLet c = true := by
  unfold isNm
  rw [Bool.and_eq_true, Bool.and_eq_true, decide_eq_true_iff, decide_eq_true_iff, Array.all_eq_true_iff_forall_mem]
  simp
theorem app_cps (a b : Str) : (a ++ b).cps.toList = a.cps.toList ++ b.cps.toList := by
  show (a.cps ++ b.cps).toList = _; simp
theorem app_len (a b : Str) : (a ++ b).length = a.length + b.length := by
  show (a.cps ++ b.cps).size = _; simp [Str.length]
/-- the loop that writes letters -/
theorem called_loop (x : Slot) : ∀ (ds : List D) (r : Int) (s : Str), s.length + ds.length ≤ 1000 → (∀ c ∈ s.cps.toList, isLet c = true) → ∃ (r' : Int) (s' : Str), s'.length = s.length + ds.length ∧ (∀ c ∈ s'.cps.toList, isLet c = true) ∧
    dLoop (tgName 3).f lb__law_called_0 (kills [3]) ds [x, .val (.int r), .val (.str s), .un] = .nx [x, .val (.int r'), .val (.str s'), .un]
  | [], r, s, _, hs => ⟨r, s, by simp, hs, rfl⟩
  | d :: ds, r, s, hl, hs => by
    have h26 : (26 : Int) = (letters.cps.toList.length : Int) := by decide +kernel
    obtain ⟨c, hc, ha⟩ := atI_mem (xs := letters.cps.toList) (i := r % 26) (Int.emod_nonneg _ (by decide)) (by rw [← h26]; exact Int.emod_lt_of_pos _ (by decide))
    have hn : ∀ k ∈ ((⟨#[c]⟩ : Str) ++ s).cps.toList, isLet k = true := fun k hk => by
      rw [app_cps] at hk
      rcases List.mem_append.mp hk with z | z
      · have : k = c := by simpa using z
        subst this
        unfold isLet; exact decide_eq_true (by simpa using hc)
      · exact hs k z
    have hl3 : ((⟨#[c]⟩ : Str) ++ s).length = 1 + s.length := by rw [app_len]; rfl
    simp only [List.length_cons] at hl
    obtain ⟨r', s', h1, h2, h3⟩ := called_loop x ds (r / 26) (⟨#[c]⟩ ++ s) (by omega) hn
    refine ⟨r', s', by rw [h1, hl3]; simp; omega, h2, ?_⟩
    rw [← h3]
    have ha' : atI (Str.ofString "abcdefghijklmnopqrstuvwxyz").cps.toList (r % 26) = some c := ha
    have hadd : dAdd (.str ⟨#[c]⟩) (.str s) = some (.str (⟨#[c]⟩ ++ s)) := by
      unfold dAdd; simp only; rw [if_pos (by rw [sizeLine_eq]; show 1 + s.length ≤ _; omega)]
    conv => lhs; unfold dLoop
    simp [lb__law_called_0, ha', hadd]

theorem rng_len (lo : Int) (n : Nat) : (rngD lo n).length = n := by simp [rngD]
/-- a name comes of any cell -/
theorem called_ok (c : Int) : ∃ s, den__law_called [.int c] = .ok (.str s) ∧ isNm s = true := by
  by_cases h : c % 2 = 0
  · have hall : ∀ d ∈ [D.str (Str.ofString "a"), D.str (Str.ofString "b"), D.str (Str.ofString "c"), D.str (Str.ofString "ab"), D.str (Str.ofString "ba"), D.str (Str.ofString "aa"), D.str (Str.ofString "self"), D.str (Str.ofString "abcdefgh"), D.str (Str.ofString "z"), D.str (Str.ofString "zz")], ∃ s, d = D.str s ∧ isNm s = true := by
      intro d hd
      simp only [List.mem_cons, List.not_mem_nil, or_false] at hd
      rcases hd with h | h | h | h | h | h | h | h | h | h <;> exact ⟨_, h, by decide +kernel⟩
    obtain ⟨d, hd, ha⟩ := atI_mem (xs := [D.str (Str.ofString "a"), D.str (Str.ofString "b"), D.str (Str.ofString "c"), D.str (Str.ofString "ab"), D.str (Str.ofString "ba"), D.str (Str.ofString "aa"), D.str (Str.ofString "self"), D.str (Str.ofString "abcdefgh"), D.str (Str.ofString "z"), D.str (Str.ofString "zz")]) (i := c / 2 % 10) (Int.emod_nonneg _ (by decide)) (Int.emod_lt_of_pos _ (by decide))
    obtain ⟨s, rfl, hs⟩ := hall d hd
    exact ⟨s, by simp [den__law_called, dFn, body__law_called, env0, h, ha], hs⟩
  · have h1 : (c % 2 == 0) = false := by simpa using h
    have hb : 0 ≤ c / 2 % 8 := Int.emod_nonneg _ (by decide)
    have hb2 : c / 2 % 8 < 8 := Int.emod_lt_of_pos _ (by decide)
    obtain ⟨r', s', e1, e2, e3⟩ := called_loop (.val (.int c)) (rngD 0 (1 + c / 2 % 8).toNat) (c / 16) (Str.ofString "") (by rw [rng_len]; show 0 + _ ≤ _; omega) (by intro k hk; cases hk)
    refine ⟨s', ?_, (nm_iff s').mpr ⟨?_, ?_, e2⟩⟩
    · have hr : (1 + c / 2 % 8 ≤ 1000000 ∧ -1000000000 ≤ 1 + c / 2 % 8) := by omega
      simp [den__law_called, dFn, body__law_called, env0, h1, hr, e3]
    · rw [e1, rng_len]; show 1 ≤ 0 + _; omega
    · rw [e1, rng_len]; show 0 + _ ≤ 8; omega

theorem add_str {a b : Str} (h : a.length + b.length ≤ 10000) : dAdd (.str a) (.str b) = some (.str (a ++ b)) := by
  unfold dAdd; simp only; rw [if_pos (Nat.le_trans h (by rw [sizeLine_eq]; decide))]
theorem cutS_len (z : Str) (lo hi : Option Int) : (cutS z lo hi).length ≤ z.length := by
  show (((z.cps.toList.drop (HT.sIx z.length 0 lo)).take (HT.sIx z.length z.length hi - HT.sIx z.length 0 lo)).toArray).size ≤ z.cps.size
  rw [List.size_toArray, List.length_take, List.length_drop, Array.length_toList]
  omega
theorem cutS_mem {z : Str} {lo hi : Option Int} {c : Nat} (h : c ∈ (cutS z lo hi).cps.toList) : c ∈ z.cps.toList := by
  have h : c ∈ (z.cps.toList.drop (HT.sIx z.length 0 lo)).take (HT.sIx z.length z.length hi - HT.sIx z.length 0 lo) := by simpa [cutS] using h
  exact List.mem_of_mem_drop (List.mem_of_mem_take h)
theorem not_nm {s : Str} {c : Nat} (h : c ∈ s.cps.toList) (hc : isLet c = false) : isNm s = false := by
  cases z : isNm s with
  | false => rfl
  | true => have := ((nm_iff s).mp z).2.2 c h; rw [hc] at this; cases this
theorem nth_ok (ns : List Int) (k : Int) (h : 0 ≤ k) : ∃ z, den__law_nth [.scr ns, .int k] = .ok (.int z) := by
  by_cases hk : k < ns.length
  · obtain ⟨z, _, ha⟩ := atI_mem h hk
    exact ⟨z, by simp [den__law_nth, dFn, body__law_nth, env0, hk, ha]⟩
  · exact ⟨0, by simp [den__law_nth, dFn, body__law_nth, env0, hk]⟩
theorem upper_nm {s : Str} (hs : isNm s = true) : mUpper (.str s) = some (.str (Txt.upper s)) ∧ isNm (Txt.upper s) = false := by
  obtain ⟨l1, l8, lets⟩ := (nm_iff s).mp hs
  have hb : ∀ c ∈ s.cps.toList, c < 128 := fun c hc => by have := (isLet_iff c).mp (lets c hc); omega
  have e : Txt.upper s = ⟨s.cps.map PyProof.Rows.up1⟩ := PyProof.Rows.upper_ascii hb
  have el : (Txt.upper s).length = s.length := by rw [e]; simp [Str.length]
  refine ⟨?_, ?_⟩
  · unfold mUpper
    simp only
    rw [if_pos]
    refine ⟨by omega, sOk_mk (by rw [el, sizeLine_eq]; omega) fun c hc => ?_⟩
    rw [e] at hc
    obtain ⟨a, ha, rfl⟩ : ∃ a, a ∈ s.cps.toList ∧ PyProof.Rows.up1 a = c := by simpa using hc
    have := hb a ha
    unfold PyProof.Rows.up1; split <;> omega
  · have h0 : 0 < s.cps.toList.length := by rw [← str_len]; omega
    have hm : s.cps.toList[0] ∈ s.cps.toList := List.getElem_mem h0
    refine not_nm (c := PyProof.Rows.up1 s.cps.toList[0]) (by rw [e]; simpa using ⟨_, by simpa using hm, rfl⟩) ?_
    have h1 := (isLet_iff _).mp (lets _ hm)
    cases z : isLet (PyProof.Rows.up1 s.cps.toList[0]) with
    | false => rfl
    | true =>
      have h2 := (isLet_iff _).mp z
      unfold PyProof.Rows.up1 at h2
      rw [if_pos (by omega)] at h2
      omega
theorem nl_nm (s : Str) : isNm (s ++ Str.ofString "\n") = false := not_nm (c := 10) (by rw [app_cps]; exact List.mem_append_right _ (by decide +kernel)) (by decide +kernel)
theorem is_no_str {s : Str} (h : isNm s = false) : den_is_name [.str s] = .ok (.bl false) := by rw [is_name_str, h]
theorem signs_no : ∀ k ∈ (Str.ofString " !\"#$&'()*+,-./0123456789:;<=>?@ABCDEFGHIJKLMNOPQRSTUVWXYZ[\\]^_`{|}~\t\n").cps.toList, isLet k = false := by decide +kernel
theorem no_name_ok (c : Int) : ∃ d, den__law_no_name [.int c] = .ok d ∧ den_is_name [d] = .ok (.bl false) := by
  obtain ⟨s, h1, hs⟩ := called_ok (c / 8960)
  obtain ⟨l1, l8, lets⟩ := (nm_iff s).mp hs
  have hm : dMod (.int (c / 16 % 8)) (.int (s.length : Int)) = some (.int (c / 16 % 8 % s.length)) := dMod_int _ _ (by omega)
  obtain ⟨u1, u2⟩ := upper_nm hs
  have b0 : 0 ≤ c % 16 := Int.emod_nonneg _ (by decide)
  have b1 : c % 16 < 16 := Int.emod_lt_of_pos _ (by decide)
  have l9 : (Str.ofString "abcdefgh").length = 8 := by decide +kernel
  have d0 : dAdd (.str s) (.str (Str.ofString "abcdefgh")) = some (.str (s ++ Str.ofString "abcdefgh")) := add_str (by omega)
  have lnl : (Str.ofString "\n").length = 1 := by decide +kernel
  have dn : dAdd (.str s) (.str (Str.ofString "\n")) = some (.str (s ++ Str.ofString "\n")) := add_str (by omega)
  by_cases a1 : c % 16 < 8
  · have o : ∃ d, atI [D.str (Str.ofString ""), D.str (s ++ Str.ofString "abcdefgh"), D.non, D.int 7, D.bl true, D.lst [D.str s], D.tup [D.str s], D.str (Txt.upper s)] (c % 16) = some d ∧ d ∈ [D.str (Str.ofString ""), D.str (s ++ Str.ofString "abcdefgh"), D.non, D.int 7, D.bl true, D.lst [D.str s], D.tup [D.str s], D.str (Txt.upper s)] := by
      obtain ⟨d, hd, ha⟩ := atI_mem (xs := [D.str (Str.ofString ""), D.str (s ++ Str.ofString "abcdefgh"), D.non, D.int 7, D.bl true, D.lst [D.str s], D.tup [D.str s], D.str (Txt.upper s)]) (i := c % 16) b0 (by simpa using a1)
      exact ⟨d, ha, hd⟩
    obtain ⟨d, ha, hd⟩ := o
    refine ⟨d, by simp [den__law_no_name, body__law_no_name, env0, h1, hm, d0, u1, a1, ha], ?_⟩
    simp only [List.mem_cons, List.not_mem_nil, or_false] at hd
    rcases hd with rfl | rfl | rfl | rfl | rfl | rfl | rfl | rfl
    · exact is_no_str (by decide +kernel)
    · refine is_no_str ?_
      have : 8 < (s ++ Str.ofString "abcdefgh").length := by rw [app_len]; omega
      unfold isNm
      have e : decide ((s ++ Str.ofString "abcdefgh").length ≤ 8) = false := decide_eq_false (by omega)
      rw [e]; simp
    · exact is_name_other _ _ rfl (by decide) (by decide)
    · exact is_name_other _ _ rfl (by decide) (by decide)
    · exact is_name_other _ _ rfl (by decide) (by decide)
    · exact is_name_other _ _ rfl (by decide) (by decide)
    · exact is_name_other _ _ rfl (by decide) (by decide)
    · exact is_no_str u2
  · by_cases a2 : c % 16 = 15
    · exact ⟨.str (s ++ Str.ofString "\n"), by simp [den__law_no_name, body__law_no_name, env0, h1, hm, d0, dn, u1, a2], is_no_str (nl_nm s)⟩
    · have q0 : 0 ≤ c / 128 % 70 := Int.emod_nonneg _ (by decide)
      have q1 : c / 128 % 70 < 70 := Int.emod_lt_of_pos _ (by decide)
      have l70 : ((Str.ofString " !\"#$&'()*+,-./0123456789:;<=>?@ABCDEFGHIJKLMNOPQRSTUVWXYZ[\\]^_`{|}~\t\n").cps.toList.length : Int) = 70 := by decide +kernel
      obtain ⟨k, hk, ha⟩ := atI_mem (xs := (Str.ofString " !\"#$&'()*+,-./0123456789:;<=>?@ABCDEFGHIJKLMNOPQRSTUVWXYZ[\\]^_`{|}~\t\n").cps.toList) (i := c / 128 % 70) q0 (by rw [l70]; exact q1)
      have kn := signs_no k hk
      have w1 := cutS_len s none (some (c / 16 % 8 % s.length))
      have w2 := cutS_len s (some (c / 16 % 8 % s.length + if c % 16 < 14 then 1 else 0)) none
      have d1 : dAdd (.str (cutS s none (some (c / 16 % 8 % s.length)))) (.str ⟨#[k]⟩) = some (.str (cutS s none (some (c / 16 % 8 % s.length)) ++ ⟨#[k]⟩)) := add_str (by show _ + 1 ≤ _; omega)
      have q3 : (cutS s none (some (c / 16 % 8 % s.length)) ++ (⟨#[k]⟩ : Str)).length ≤ 9 := by rw [app_len]; show _ + 1 ≤ _; omega
      have d2 := add_str (a := cutS s none (some (c / 16 % 8 % s.length)) ++ ⟨#[k]⟩) (b := cutS s (some (c / 16 % 8 % s.length + if c % 16 < 14 then 1 else 0)) none) (by omega)
      refine ⟨.str (cutS s none (some (c / 16 % 8 % s.length)) ++ ⟨#[k]⟩ ++ cutS s (some (c / 16 % 8 % s.length + if c % 16 < 14 then 1 else 0)) none), ?_, is_no_str (not_nm (c := k) (by rw [app_cps, app_cps]; simp) kn)⟩
      have a3 : (c % 16 == 15) = false := by simpa using a2
      simp [den__law_no_name, body__law_no_name, env0, h1, hm, d0, u1, a1, a3, ha, dSl, d1, d2]
end Lw
namespace Lw
open Dn L2 PySem
theorem checked_ok {s : Str} (h : isNm s = true) : den_checked [.str s] = .ok (.str s) := by
  simp [den_checked, body_checked, env0, is_name_str, h]
theorem checked_no {d : D} (h : den_is_name [d] = .ok (.bl false)) : den_checked [d] = .exc 1 none := by
  simp [den_checked, body_checked, env0, h]
inductive Cv where
  | ahead (i : Int) | with_ (s : Str) (i : Int) | spare (s : Str) (i : Int) | without (s : Str) | exch (s t : Str) | swallow | byplace | byname
open Cv
def Cv.row : Cv → D
  | ahead i => .tup [.str "ahead", .int i]
  | with_ s i => .tup [.str "with", .str s, .int i]
  | spare s i => .tup [.str "spare", .str s, .int i]
  | without s => .tup [.str "without", .str s]
  | exch s t => .tup [.str "exchange", .str s, .str t]
  | swallow => .tup [.str "swallow"]
  | byplace => .tup [.str "byplace"]
  | byname => .tup [.str "byname"]
def Cv.obj : Cv → D
  | ahead i => .obj 12 [.int i]
  | with_ s i => .obj 13 [.str s, .int i]
  | spare s i => .obj 14 [.str s, .int i]
  | without s => .obj 15 [.str s]
  | exch s t => .obj 16 [.str s, .str t]
  | swallow => .obj 17 []
  | byplace => .obj 18 []
  | byname => .obj 19 []
def Cv.nm : Cv → Prop
  | with_ s i => isNm s = true
  | spare s i => isNm s = true
  | without s => isNm s = true
  | exch s t => isNm s = true ∧ isNm t = true
  | _ => True
def ws8 : List Str := ["ahead", "with", "spare", "without", "exchange", "swallow", "byplace", "byname"]
theorem made_ok (v : Cv) (h : v.nm) : den__law_cover_of [v.row] = .ok v.obj := by
  have q1 : (Str.ofString "with" == Str.ofString "ahead") = false := by decide +kernel
  have q2 : (Str.ofString "spare" == Str.ofString "ahead") = false := by decide +kernel
  have q3 : (Str.ofString "spare" == Str.ofString "with") = false := by decide +kernel
  have q4 : (Str.ofString "without" == Str.ofString "ahead") = false := by decide +kernel
  have q5 : (Str.ofString "without" == Str.ofString "with") = false := by decide +kernel
  have q6 : (Str.ofString "without" == Str.ofString "spare") = false := by decide +kernel
  have q7 : (Str.ofString "exchange" == Str.ofString "ahead") = false := by decide +kernel
  have q8 : (Str.ofString "exchange" == Str.ofString "with") = false := by decide +kernel
  have q9 : (Str.ofString "exchange" == Str.ofString "spare") = false := by decide +kernel
  have qa : (Str.ofString "exchange" == Str.ofString "without") = false := by decide +kernel
  have qb : (Str.ofString "swallow" == Str.ofString "ahead") = false := by decide +kernel
  have qc : (Str.ofString "swallow" == Str.ofString "with") = false := by decide +kernel
  have qd : (Str.ofString "swallow" == Str.ofString "spare") = false := by decide +kernel
  have qe : (Str.ofString "swallow" == Str.ofString "without") = false := by decide +kernel
  have qf : (Str.ofString "swallow" == Str.ofString "exchange") = false := by decide +kernel
  have r1 : (Str.ofString "byplace" == Str.ofString "ahead") = false := by decide +kernel
  have r2 : (Str.ofString "byplace" == Str.ofString "with") = false := by decide +kernel
  have r3 : (Str.ofString "byplace" == Str.ofString "spare") = false := by decide +kernel
  have r4 : (Str.ofString "byplace" == Str.ofString "without") = false := by decide +kernel
  have r5 : (Str.ofString "byplace" == Str.ofString "exchange") = false := by decide +kernel
  have r6 : (Str.ofString "byplace" == Str.ofString "swallow") = false := by decide +kernel
  have r7 : (Str.ofString "byname" == Str.ofString "ahead") = false := by decide +kernel
  have r8 : (Str.ofString "byname" == Str.ofString "with") = false := by decide +kernel
  have r9 : (Str.ofString "byname" == Str.ofString "spare") = false := by decide +kernel
  have ra : (Str.ofString "byname" == Str.ofString "without") = false := by decide +kernel
  have rb : (Str.ofString "byname" == Str.ofString "exchange") = false := by decide +kernel
  have rc : (Str.ofString "byname" == Str.ofString "swallow") = false := by decide +kernel
  have rd : (Str.ofString "byname" == Str.ofString "byplace") = false := by decide +kernel
  cases v
  case ahead i => simp [den__law_cover_of, body__law_cover_of, env0, Cv.row, Cv.obj, den_Ahead_init, body_Ahead_init, envI, List.lookup]
  case with_ s i => have h : isNm s = true := h; simp [den__law_cover_of, body__law_cover_of, env0, Cv.row, Cv.obj, den_With_init, body_With_init, envI, List.lookup, checked_ok h, q1]
  case spare s i => have h : isNm s = true := h; simp [den__law_cover_of, body__law_cover_of, env0, Cv.row, Cv.obj, den_Spare_init, body_Spare_init, envI, List.lookup, checked_ok h, q2, q3]
  case without s => have h : isNm s = true := h; simp [den__law_cover_of, body__law_cover_of, env0, Cv.row, Cv.obj, den_Without_init, body_Without_init, envI, List.lookup, checked_ok h, q4, q5, q6]
  case exch s t =>
    have h : isNm s = true ∧ isNm t = true := h
    simp [den__law_cover_of, body__law_cover_of, env0, Cv.row, Cv.obj, den_Exchange_init, body_Exchange_init, envI, List.lookup, checked_ok h.1, checked_ok h.2, q7, q8, q9, qa]
  case swallow => simp [den__law_cover_of, body__law_cover_of, env0, Cv.row, Cv.obj, qb, qc, qd, qe, qf]
  case byplace => simp [den__law_cover_of, body__law_cover_of, env0, Cv.row, Cv.obj, r1, r2, r3, r4, r5, r6]
  case byname => simp [den__law_cover_of, body__law_cover_of, env0, Cv.row, Cv.obj, r7, r8, r9, ra, rb, rc, rd]
def Cv.wd : Cv → Str
  | ahead _ => "ahead" | with_ _ _ => "with" | spare _ _ => "spare" | without _ => "without" | exch _ _ => "exchange" | swallow => "swallow" | byplace => "byplace" | byname => "byname"
theorem row_0 (v : Cv) : dIxV v.row (.int 0) = some (.str v.wd) := by cases v <;> simp [Cv.row, Cv.wd]
theorem w8 (u : Str) (bs : List Bool) (h : ws8.map (fun w => w == u) = bs) : (ws8.map fun w => D.bl (w == u)) = bs.map D.bl := by rw [← h, List.map_map]; rfl
theorem sorts_ok (v : Cv) : den__law_sorts [v.obj] = .ok (.lst (ws8.map fun w => D.bl (w == v.wd))) := by
  cases v
  case ahead i => simp only [Cv.wd]; rw [w8 _ [true, false, false, false, false, false, false, false] (by decide +kernel)]; simp [den__law_sorts, body__law_sorts, env0, Cv.obj, List.lookup, dAdd, sizeLine_eq]
  case with_ s i => simp only [Cv.wd]; rw [w8 _ [false, true, false, false, false, false, false, false] (by decide +kernel)]; simp [den__law_sorts, body__law_sorts, env0, Cv.obj, List.lookup, dAdd, sizeLine_eq]
  case spare s i => simp only [Cv.wd]; rw [w8 _ [false, false, true, false, false, false, false, false] (by decide +kernel)]; simp [den__law_sorts, body__law_sorts, env0, Cv.obj, List.lookup, dAdd, sizeLine_eq]
  case without s => simp only [Cv.wd]; rw [w8 _ [false, false, false, true, false, false, false, false] (by decide +kernel)]; simp [den__law_sorts, body__law_sorts, env0, Cv.obj, List.lookup, dAdd, sizeLine_eq]
  case exch s t => simp only [Cv.wd]; rw [w8 _ [false, false, false, false, true, false, false, false] (by decide +kernel)]; simp [den__law_sorts, body__law_sorts, env0, Cv.obj, List.lookup, dAdd, sizeLine_eq]
  case swallow => simp only [Cv.wd]; rw [w8 _ [false, false, false, false, false, true, false, false] (by decide +kernel)]; simp [den__law_sorts, body__law_sorts, env0, Cv.obj, List.lookup, dAdd, sizeLine_eq]
  case byplace => simp only [Cv.wd]; rw [w8 _ [false, false, false, false, false, false, true, false] (by decide +kernel)]; simp [den__law_sorts, body__law_sorts, env0, Cv.obj, List.lookup, dAdd, sizeLine_eq]
  case byname => simp only [Cv.wd]; rw [w8 _ [false, false, false, false, false, false, false, true] (by decide +kernel)]; simp [den__law_sorts, body__law_sorts, env0, Cv.obj, List.lookup, dAdd, sizeLine_eq]
theorem lst_ne (bs : List Bool) : dNe (.lst (bs.map D.bl)) (.lst (bs.map D.bl)) = some (.bl false) := by
  have h1 : ∀ bs : List Bool, pys (bs.map D.bl) = some (bs.map PyData.bool) := fun bs => by
    induction bs with
    | nil => rfl
    | cons b t ih => simp [pys, D.py, ih]
  have h2 : ∀ bs : List Bool, PyData.eqvAll (bs.map PyData.bool) (bs.map PyData.bool) = true := fun bs => by
    induction bs with
    | nil => rfl
    | cons b t ih => simp [PyData.eqvAll, PyData.eqv, ih]
  have h3 : ∀ bs : List Bool, PyData.depthAll (bs.map PyData.bool) ≤ 1 := fun bs => by
    induction bs with
    | nil => decide
    | cons b t ih => simp [PyData.depthAll, PyData.depth]; omega
  have := h3 bs
  simp [dNe, dEqB, D.py, h1, h2, PyData.eqv, PyData.depth]
  omega
theorem cover_ok (c : Int) : ∃ v : Cv, den__law_cover [.int c, .lst []] = .ok v.row ∧ v.nm := by
  obtain ⟨s, h1, hs⟩ := called_ok (c / 32)
  obtain ⟨t, h2, ht⟩ := called_ok (c / 640)
  have n0 : dNe (.lst []) (.lst []) = some (.bl false) := lst_ne []
  have p60 : dPow (.int 10) (.int 60) = some (.int 1000000000000000000000000000000000000000000000000000000000000) := dPow_int (by decide +kernel) (by decide +kernel)
  have m1 : dMul (.int 2) (.int 1000000000000000000000000000000000000000000000000000000000000) = some (.int 2000000000000000000000000000000000000000000000000000000000000) := dMul_int (by decide +kernel) (by decide +kernel)
  have b0 : 0 ≤ c % 8 := Int.emod_nonneg _ (by decide)
  have b1 : c % 8 < 8 := Int.emod_lt_of_pos _ (by decide)
  have cs : c % 8 = 0 ∨ c % 8 = 1 ∨ c % 8 = 2 ∨ c % 8 = 3 ∨ c % 8 = 4 ∨ c % 8 = 5 ∨ c % 8 = 6 ∨ c % 8 = 7 := by omega
  have md : dMod (.int (c / 48)) (.int 1999999999999999999999999999999999999999999999999999999999999) = some (.int (c / 48 % 1999999999999999999999999999999999999999999999999999999999999)) := dMod_int _ _ (by decide)
  by_cases h3 : c / 16 % 3 = 2
  · rcases cs with h | h | h | h | h | h | h | h
    · exact ⟨.ahead _, by simp [den__law_cover, body__law_cover, env0, h1, h2, n0, h3, p60, m1, md, h, Cv.row]; rfl, trivial⟩
    · exact ⟨.with_ s _, by simp [den__law_cover, body__law_cover, env0, h1, h2, n0, h3, p60, m1, md, h, Cv.row]; rfl, hs⟩
    · exact ⟨.spare s _, by simp [den__law_cover, body__law_cover, env0, h1, h2, n0, h3, p60, m1, md, h, Cv.row]; rfl, hs⟩
    · exact ⟨.without s, by simp [den__law_cover, body__law_cover, env0, h1, h2, n0, h3, p60, m1, md, h, Cv.row], hs⟩
    · exact ⟨.exch s t, by simp [den__law_cover, body__law_cover, env0, h1, h2, n0, h3, p60, m1, md, h, Cv.row], hs, ht⟩
    · exact ⟨.swallow, by simp [den__law_cover, body__law_cover, env0, h1, h2, n0, h3, p60, m1, md, h, Cv.row], trivial⟩
    · exact ⟨.byplace, by simp [den__law_cover, body__law_cover, env0, h1, h2, n0, h3, p60, m1, md, h, Cv.row], trivial⟩
    · exact ⟨.byname, by simp [den__law_cover, body__law_cover, env0, h1, h2, n0, h3, p60, m1, md, h, Cv.row], trivial⟩
  · have h3 : (c / 16 % 3 == 2) = false := by simpa using h3
    rcases cs with h | h | h | h | h | h | h | h
    · exact ⟨.ahead _, by simp [den__law_cover, body__law_cover, env0, h1, h2, n0, h3, h, Cv.row]; rfl, trivial⟩
    · exact ⟨.with_ s _, by simp [den__law_cover, body__law_cover, env0, h1, h2, n0, h3, h, Cv.row]; rfl, hs⟩
    · exact ⟨.spare s _, by simp [den__law_cover, body__law_cover, env0, h1, h2, n0, h3, h, Cv.row]; rfl, hs⟩
    · exact ⟨.without s, by simp [den__law_cover, body__law_cover, env0, h1, h2, n0, h3, h, Cv.row], hs⟩
    · exact ⟨.exch s t, by simp [den__law_cover, body__law_cover, env0, h1, h2, n0, h3, h, Cv.row], hs, ht⟩
    · exact ⟨.swallow, by simp [den__law_cover, body__law_cover, env0, h1, h2, n0, h3, h, Cv.row], trivial⟩
    · exact ⟨.byplace, by simp [den__law_cover, body__law_cover, env0, h1, h2, n0, h3, h, Cv.row], trivial⟩
    · exact ⟨.byname, by simp [den__law_cover, body__law_cover, env0, h1, h2, n0, h3, h, Cv.row], trivial⟩
theorem bad_ok {w : Int} (hw : 0 ≤ w ∧ w < 6) {g : Str} (hg : isNm g = true) {d : D} (hd : den_is_name [d] = .ok (.bl false)) : den__law_bad_made [.int w, .str g, d] = .exc 1 none := by
  have hw : w = 0 ∨ w = 1 ∨ w = 2 ∨ w = 3 ∨ w = 4 ∨ w = 5 := by omega
  rcases hw with rfl | rfl | rfl | rfl | rfl | rfl <;> simp [den__law_bad_made, body__law_bad_made, env0, den_With_init, body_With_init, den_Spare_init, body_Spare_init, den_Without_init, body_Without_init, den_Exchange_init, body_Exchange_init, envI, checked_no hd, checked_ok hg, List.lookup]
theorem refused_ok {w : Int} (hw : 0 ≤ w ∧ w < 6) {g : Str} (hg : isNm g = true) {d : D} (hd : den_is_name [d] = .ok (.bl false)) : den__law_refused [.int w, .str g, d] = .ok (.bl true) := by
  simp [den__law_refused, body__law_refused, env0, tb__law_refused_0, bad_ok hw hg hd, List.lookup, ts__law_refused_1]
theorem turn_ok (x : Slot) (c : Int) : ∃ a b, lb_law_1 [x, .val (.lst (ws8.map D.str)), .val (.int c), .un, .un, .un] = .nx [x, .val (.lst (ws8.map D.str)), .val (.int c), a, b, .un] := by
  obtain ⟨v, h1, hv⟩ := cover_ok c
  obtain ⟨g, h2, hg⟩ := called_ok (c / 48)
  obtain ⟨d, h3, hd⟩ := no_name_ok (c / 48)
  have r1 := refused_ok (w := c / 8 % 6) ⟨Int.emod_nonneg _ (by decide), Int.emod_lt_of_pos _ (by decide)⟩ hg hd
  have m1 := made_ok v hv
  have s1 := sorts_ok v
  have i0 : ∃ k ds, v.obj = .obj k ds ∧ ([(12, true), (13, true), (14, true), (15, true), (16, true), (17, true), (18, true), (19, true)] : List (Nat × Bool)).lookup k = some true := by
    cases v <;> exact ⟨_, _, rfl, by decide⟩
  obtain ⟨k, ds, o1, o2⟩ := i0
  have hc : dCompL (tgName 5).f dYes ce_law_0 [x, .val (.lst (ws8.map D.str)), .val (.int c), .val v.row, .val v.obj, .un] (ws8.map D.str) = .ok (ws8.map fun w => D.bl (w == v.wd)) :=
    dCompL_all D.str _ _ fun w _ => ⟨_, rfl, by simp [ce_law_0, row_0]⟩
  have e1 := lst_ne (ws8.map fun w => w == v.wd)
  rw [List.map_map] at e1
  have e1 : dNe (.lst (ws8.map fun w => D.bl (w == v.wd))) (.lst (ws8.map fun w => D.bl (w == v.wd))) = some (.bl false) := e1
  refine ⟨.val v.row, .val v.obj, ?_⟩
  rw [o1] at m1 s1 hc ⊢
  simp [lb_law_1, h1, m1, s1, hc, e1, h2, h3, r1, o2]
theorem law_true (ns : List Int) (hl : ns.length ≤ 63) : den_law [.scr ns] = .ok (.bl true) := by
  obtain ⟨z, hz⟩ := nth_ok ns 0 (by decide)
  have h1 : dAdd (.lst ((cutD ns none (some 40)).map D.int)) (.lst [.int (z + 3)]) = some (.lst ((cutD ns none (some 40) ++ [z + 3]).map D.int)) := by
    unfold dAdd
    simp only
    rw [if_pos]
    · simp
    · have := cutD_length ns none (some 40)
      rw [List.length_map, sizeLine_eq]; simp; omega
  have h2 : dLoop (tgName 2).f lb_law_1 (kills [2, 3, 4]) ((cutD ns none (some 40) ++ [z + 3]).map D.int) [.val (.scr ns), .val (.lst (ws8.map D.str)), .un, .un, .un, .un] = .nx [.val (.scr ns), .val (.lst (ws8.map D.str)), .un, .un, .un, .un] := by
    refine dLoop_const D.int _ fun t _ => ?_
    obtain ⟨a, b, e⟩ := turn_ok (.val (.scr ns)) t
    exact ⟨_, _, rfl, .inl e, rfl⟩
  have hs : dSl (.scr ns) none (some 40) = some (.lst ((cutD ns none (some 40)).map D.int)) := rfl
  simp only [List.map_append, List.map_cons, List.map_nil] at h1 h2
  have hw : ws8.map D.str = [D.str (Str.ofString "ahead"), D.str (Str.ofString "with"), D.str (Str.ofString "spare"), D.str (Str.ofString "without"), D.str (Str.ofString "exchange"), D.str (Str.ofString "swallow"), D.str (Str.ofString "byplace"), D.str (Str.ofString "byname")] := rfl
  rw [hw] at h2
  simp [den_law, dFn, body_law, env0, hz, hs, h1, h2]
end Lw

/-! g.walks -/
namespace Lw
open PySem PySem.Spec PyProof.Rows L2 Dn
def top (i : Nat) : Stmt := PySem.Challenge.pw_callbinds_k72_covers_refused.main.body.getD i (.Pass ⟨0, 0, 0, 0⟩)
abbrev s_is_name : Stmt := top 16
abbrev n_is_name : List Str := ["thing", "sign"]
abbrev p_is_name : List Str := ["thing"]
abbrev s_checked : Stmt := top 18
abbrev n_checked : List Str := ["name"]
abbrev p_checked : List Str := ["name"]
abbrev s__law_nth : Stmt := top 29
abbrev n__law_nth : List Str := ["script", "k"]
abbrev p__law_nth : List Str := ["script", "k"]
abbrev s__law_called : Stmt := top 31
abbrev n__law_called : List Str := ["cell", "rest", "found", "k"]
abbrev p__law_called : List Str := ["cell"]
abbrev s__law_no_name : Stmt := top 32
abbrev n__law_no_name : List Str := ["cell", "good", "at", "odd", "signs"]
abbrev p__law_no_name : List Str := ["cell"]
abbrev s__law_cover : Stmt := top 33
abbrev n__law_cover : List Str := ["cell", "near", "name", "other", "thing", "way"]
abbrev p__law_cover : List Str := ["cell", "near"]
abbrev s__law_cover_of : Stmt := top 34
abbrev n__law_cover_of : List Str := ["row"]
abbrev p__law_cover_of : List Str := ["row"]
abbrev s__law_sorts : Stmt := top 35
abbrev n__law_sorts : List Str := ["one", "some"]
abbrev p__law_sorts : List Str := ["one"]
abbrev s__law_bad_made : Stmt := top 36
abbrev n__law_bad_made : List Str := ["way", "good", "bad"]
abbrev p__law_bad_made : List Str := ["way", "good", "bad"]
abbrev s__law_refused : Stmt := top 37
abbrev n__law_refused : List Str := ["way", "good", "bad", "fine", "other", "e"]
abbrev p__law_refused : List Str := ["way", "good", "bad"]
abbrev s_law : Stmt := top 38
abbrev n_law : List Str := ["script", "words", "cell", "row", "one", "word"]
abbrev p_law : List Str := ["script"]
abbrev s_Ahead_init : Stmt := inClass (top 20) 0
abbrev n_Ahead_init : List Str := ["self", "thing"]
abbrev p_Ahead_init : List Str := ["self", "thing"]
abbrev s_With_init : Stmt := inClass (top 21) 0
abbrev n_With_init : List Str := ["self", "name", "thing"]
abbrev p_With_init : List Str := ["self", "name", "thing"]
abbrev s_Spare_init : Stmt := inClass (top 22) 0
abbrev n_Spare_init : List Str := ["self", "name", "thing"]
abbrev p_Spare_init : List Str := ["self", "name", "thing"]
abbrev s_Without_init : Stmt := inClass (top 23) 0
abbrev n_Without_init : List Str := ["self", "name"]
abbrev p_Without_init : List Str := ["self", "name"]
abbrev s_Exchange_init : Stmt := inClass (top 24) 0
abbrev n_Exchange_init : List Str := ["self", "one", "other"]
abbrev p_Exchange_init : List Str := ["self", "one", "other"]
def flds : Nat → List Str
  | 1 => []
  | 12 => ["thing"]
  | 13 => ["name", "thing"]
  | 14 => ["name", "thing"]
  | 15 => ["name"]
  | 16 => ["one", "other"]
  | 17 => []
  | 18 => []
  | 19 => []
  | _ => []
theorem flds_small (c : Nat) : (flds c).length < 1000 := by unfold flds; split <;> decide
structure Tx (K : PySem.W.Frag) (mg : Str → Option Value) where
  C_CallError : Addr
  C_NoName : Addr
  C_TooMany : Addr
  C_BadOrder : Addr
  C_Twice : Addr
  C_NoChange : Addr
  C_NoDefault : Addr
  C_NoText : Addr
  C_NoRow : Addr
  C_Unknown : Addr
  C_Misfit : Addr
  C_Cover : Addr
  C_Ahead : Addr
  C_With : Addr
  C_Spare : Addr
  C_Without : Addr
  C_Exchange : Addr
  C_Swallow : Addr
  C_ByPlace : Addr
  C_ByName : Addr
  a_is_name : Addr
  d_is_name : FuncData
  u_is_name : Fun K "is_name" "is_name" s_is_name a_is_name d_is_name
  b_is_name : Binds K d_is_name p_is_name []
  m_is_name : mg "is_name" = some (.ref a_is_name)
  a_checked : Addr
  d_checked : FuncData
  u_checked : Fun K "checked" "checked" s_checked a_checked d_checked
  b_checked : Binds K d_checked p_checked []
  m_checked : mg "checked" = some (.ref a_checked)
  a__law_nth : Addr
  d__law_nth : FuncData
  u__law_nth : Fun K "_law_nth" "_law_nth" s__law_nth a__law_nth d__law_nth
  b__law_nth : Binds K d__law_nth p__law_nth []
  m__law_nth : mg "_law_nth" = some (.ref a__law_nth)
  a__law_called : Addr
  d__law_called : FuncData
  u__law_called : Fun K "_law_called" "_law_called" s__law_called a__law_called d__law_called
  b__law_called : Binds K d__law_called p__law_called []
  m__law_called : mg "_law_called" = some (.ref a__law_called)
  a__law_no_name : Addr
  d__law_no_name : FuncData
  u__law_no_name : Fun K "_law_no_name" "_law_no_name" s__law_no_name a__law_no_name d__law_no_name
  b__law_no_name : Binds K d__law_no_name p__law_no_name []
  m__law_no_name : mg "_law_no_name" = some (.ref a__law_no_name)
  a__law_cover : Addr
  d__law_cover : FuncData
  u__law_cover : Fun K "_law_cover" "_law_cover" s__law_cover a__law_cover d__law_cover
  b__law_cover : Binds K d__law_cover p__law_cover []
  m__law_cover : mg "_law_cover" = some (.ref a__law_cover)
  a__law_cover_of : Addr
  d__law_cover_of : FuncData
  u__law_cover_of : Fun K "_law_cover_of" "_law_cover_of" s__law_cover_of a__law_cover_of d__law_cover_of
  b__law_cover_of : Binds K d__law_cover_of p__law_cover_of []
  m__law_cover_of : mg "_law_cover_of" = some (.ref a__law_cover_of)
  a__law_sorts : Addr
  d__law_sorts : FuncData
  u__law_sorts : Fun K "_law_sorts" "_law_sorts" s__law_sorts a__law_sorts d__law_sorts
  b__law_sorts : Binds K d__law_sorts p__law_sorts []
  m__law_sorts : mg "_law_sorts" = some (.ref a__law_sorts)
  a__law_bad_made : Addr
  d__law_bad_made : FuncData
  u__law_bad_made : Fun K "_law_bad_made" "_law_bad_made" s__law_bad_made a__law_bad_made d__law_bad_made
  b__law_bad_made : Binds K d__law_bad_made p__law_bad_made []
  m__law_bad_made : mg "_law_bad_made" = some (.ref a__law_bad_made)
  a__law_refused : Addr
  d__law_refused : FuncData
  u__law_refused : Fun K "_law_refused" "_law_refused" s__law_refused a__law_refused d__law_refused
  b__law_refused : Binds K d__law_refused p__law_refused []
  m__law_refused : mg "_law_refused" = some (.ref a__law_refused)
  a_law : Addr
  d_law : FuncData
  u_law : Fun K "law" "law" s_law a_law d_law
  b_law : Binds K d_law p_law []
  m_law : mg "law" = some (.ref a_law)
  a_Ahead_init : Addr
  d_Ahead_init : FuncData
  u_Ahead_init : Fun K "__init__" "Ahead.__init__" s_Ahead_init a_Ahead_init d_Ahead_init
  b_Ahead_init : Binds K d_Ahead_init p_Ahead_init []
  a_With_init : Addr
  d_With_init : FuncData
  u_With_init : Fun K "__init__" "With.__init__" s_With_init a_With_init d_With_init
  b_With_init : Binds K d_With_init p_With_init []
  a_Spare_init : Addr
  d_Spare_init : FuncData
  u_Spare_init : Fun K "__init__" "Spare.__init__" s_Spare_init a_Spare_init d_Spare_init
  b_Spare_init : Binds K d_Spare_init p_Spare_init []
  a_Without_init : Addr
  d_Without_init : FuncData
  u_Without_init : Fun K "__init__" "Without.__init__" s_Without_init a_Without_init d_Without_init
  b_Without_init : Binds K d_Without_init p_Without_init []
  a_Exchange_init : Addr
  d_Exchange_init : FuncData
  u_Exchange_init : Fun K "__init__" "Exchange.__init__" s_Exchange_init a_Exchange_init d_Exchange_init
  b_Exchange_init : Binds K d_Exchange_init p_Exchange_init []
  z_ValueError : mg "ValueError" = none
  z_all : mg "all" = none
  z_int : mg "int" = none
  z_isinstance : mg "isinstance" = none
  z_len : mg "len" = none
  z_range : mg "range" = none
  z_str : mg "str" = none
  t_LONGEST : Tok
  g_LONGEST : mg "LONGEST" = some (.int 8 t_LONGEST)
  t_LETTERS : Tok
  g_LETTERS : mg "LETTERS" = some (.str "abcdefghijklmnopqrstuvwxyz" t_LETTERS)
  m_Cover : mg "Cover" = some (.ref C_Cover)
  cl_Ahead : Cls K C_Ahead
  kc_Ahead : PySem.W.findIn K (.ref C_Ahead) "__class__" = some (some (.builtin "object.__class__"))
  mo_Ahead : PySem.W.mroIn K C_Ahead (.type "object") = some true
  ko_Ahead_Cover : PySem.W.kitOne K (.ref C_Ahead) (.ref C_Cover) = some true
  cl_With : Cls K C_With
  kc_With : PySem.W.findIn K (.ref C_With) "__class__" = some (some (.builtin "object.__class__"))
  mo_With : PySem.W.mroIn K C_With (.type "object") = some true
  ko_With_Cover : PySem.W.kitOne K (.ref C_With) (.ref C_Cover) = some true
  cl_Spare : Cls K C_Spare
  kc_Spare : PySem.W.findIn K (.ref C_Spare) "__class__" = some (some (.builtin "object.__class__"))
  mo_Spare : PySem.W.mroIn K C_Spare (.type "object") = some true
  ko_Spare_Cover : PySem.W.kitOne K (.ref C_Spare) (.ref C_Cover) = some true
  cl_Without : Cls K C_Without
  kc_Without : PySem.W.findIn K (.ref C_Without) "__class__" = some (some (.builtin "object.__class__"))
  mo_Without : PySem.W.mroIn K C_Without (.type "object") = some true
  ko_Without_Cover : PySem.W.kitOne K (.ref C_Without) (.ref C_Cover) = some true
  cl_Exchange : Cls K C_Exchange
  kc_Exchange : PySem.W.findIn K (.ref C_Exchange) "__class__" = some (some (.builtin "object.__class__"))
  mo_Exchange : PySem.W.mroIn K C_Exchange (.type "object") = some true
  ko_Exchange_Cover : PySem.W.kitOne K (.ref C_Exchange) (.ref C_Cover) = some true
  cl_Swallow : Cls K C_Swallow
  kc_Swallow : PySem.W.findIn K (.ref C_Swallow) "__class__" = some (some (.builtin "object.__class__"))
  mo_Swallow : PySem.W.mroIn K C_Swallow (.type "object") = some true
  ko_Swallow_Cover : PySem.W.kitOne K (.ref C_Swallow) (.ref C_Cover) = some true
  cl_ByPlace : Cls K C_ByPlace
  kc_ByPlace : PySem.W.findIn K (.ref C_ByPlace) "__class__" = some (some (.builtin "object.__class__"))
  mo_ByPlace : PySem.W.mroIn K C_ByPlace (.type "object") = some true
  ko_ByPlace_Cover : PySem.W.kitOne K (.ref C_ByPlace) (.ref C_Cover) = some true
  cl_ByName : Cls K C_ByName
  kc_ByName : PySem.W.findIn K (.ref C_ByName) "__class__" = some (some (.builtin "object.__class__"))
  mo_ByName : PySem.W.mroIn K C_ByName (.type "object") = some true
  ko_ByName_Cover : PySem.W.kitOne K (.ref C_ByName) (.ref C_Cover) = some true
  oc_n : PySem.W.specialIn K (.builtin "object.__class__") "__get__" = some (some (.builtin "getset_descriptor.__get__"))
  oc_t : PySem.W.takesIn K (.builtin "object.__class__") = some true
  m_Ahead : mg "Ahead" = some (.ref C_Ahead)
  ko_Ahead_Ahead : PySem.W.kitOne K (.ref C_Ahead) (.ref C_Ahead) = some true
  ko_With_Ahead : PySem.W.kitOne K (.ref C_With) (.ref C_Ahead) = some false
  ko_Spare_Ahead : PySem.W.kitOne K (.ref C_Spare) (.ref C_Ahead) = some false
  ko_Without_Ahead : PySem.W.kitOne K (.ref C_Without) (.ref C_Ahead) = some false
  ko_Exchange_Ahead : PySem.W.kitOne K (.ref C_Exchange) (.ref C_Ahead) = some false
  ko_Swallow_Ahead : PySem.W.kitOne K (.ref C_Swallow) (.ref C_Ahead) = some false
  ko_ByPlace_Ahead : PySem.W.kitOne K (.ref C_ByPlace) (.ref C_Ahead) = some false
  ko_ByName_Ahead : PySem.W.kitOne K (.ref C_ByName) (.ref C_Ahead) = some false
  m_With : mg "With" = some (.ref C_With)
  ko_Ahead_With : PySem.W.kitOne K (.ref C_Ahead) (.ref C_With) = some false
  ko_With_With : PySem.W.kitOne K (.ref C_With) (.ref C_With) = some true
  ko_Spare_With : PySem.W.kitOne K (.ref C_Spare) (.ref C_With) = some false
  ko_Without_With : PySem.W.kitOne K (.ref C_Without) (.ref C_With) = some false
  ko_Exchange_With : PySem.W.kitOne K (.ref C_Exchange) (.ref C_With) = some false
  ko_Swallow_With : PySem.W.kitOne K (.ref C_Swallow) (.ref C_With) = some false
  ko_ByPlace_With : PySem.W.kitOne K (.ref C_ByPlace) (.ref C_With) = some false
  ko_ByName_With : PySem.W.kitOne K (.ref C_ByName) (.ref C_With) = some false
  m_Spare : mg "Spare" = some (.ref C_Spare)
  ko_Ahead_Spare : PySem.W.kitOne K (.ref C_Ahead) (.ref C_Spare) = some false
  ko_With_Spare : PySem.W.kitOne K (.ref C_With) (.ref C_Spare) = some false
  ko_Spare_Spare : PySem.W.kitOne K (.ref C_Spare) (.ref C_Spare) = some true
  ko_Without_Spare : PySem.W.kitOne K (.ref C_Without) (.ref C_Spare) = some false
  ko_Exchange_Spare : PySem.W.kitOne K (.ref C_Exchange) (.ref C_Spare) = some false
  ko_Swallow_Spare : PySem.W.kitOne K (.ref C_Swallow) (.ref C_Spare) = some false
  ko_ByPlace_Spare : PySem.W.kitOne K (.ref C_ByPlace) (.ref C_Spare) = some false
  ko_ByName_Spare : PySem.W.kitOne K (.ref C_ByName) (.ref C_Spare) = some false
  m_Without : mg "Without" = some (.ref C_Without)
  ko_Ahead_Without : PySem.W.kitOne K (.ref C_Ahead) (.ref C_Without) = some false
  ko_With_Without : PySem.W.kitOne K (.ref C_With) (.ref C_Without) = some false
  ko_Spare_Without : PySem.W.kitOne K (.ref C_Spare) (.ref C_Without) = some false
  ko_Without_Without : PySem.W.kitOne K (.ref C_Without) (.ref C_Without) = some true
  ko_Exchange_Without : PySem.W.kitOne K (.ref C_Exchange) (.ref C_Without) = some false
  ko_Swallow_Without : PySem.W.kitOne K (.ref C_Swallow) (.ref C_Without) = some false
  ko_ByPlace_Without : PySem.W.kitOne K (.ref C_ByPlace) (.ref C_Without) = some false
  ko_ByName_Without : PySem.W.kitOne K (.ref C_ByName) (.ref C_Without) = some false
  m_Exchange : mg "Exchange" = some (.ref C_Exchange)
  ko_Ahead_Exchange : PySem.W.kitOne K (.ref C_Ahead) (.ref C_Exchange) = some false
  ko_With_Exchange : PySem.W.kitOne K (.ref C_With) (.ref C_Exchange) = some false
  ko_Spare_Exchange : PySem.W.kitOne K (.ref C_Spare) (.ref C_Exchange) = some false
  ko_Without_Exchange : PySem.W.kitOne K (.ref C_Without) (.ref C_Exchange) = some false
  ko_Exchange_Exchange : PySem.W.kitOne K (.ref C_Exchange) (.ref C_Exchange) = some true
  ko_Swallow_Exchange : PySem.W.kitOne K (.ref C_Swallow) (.ref C_Exchange) = some false
  ko_ByPlace_Exchange : PySem.W.kitOne K (.ref C_ByPlace) (.ref C_Exchange) = some false
  ko_ByName_Exchange : PySem.W.kitOne K (.ref C_ByName) (.ref C_Exchange) = some false
  m_Swallow : mg "Swallow" = some (.ref C_Swallow)
  ko_Ahead_Swallow : PySem.W.kitOne K (.ref C_Ahead) (.ref C_Swallow) = some false
  ko_With_Swallow : PySem.W.kitOne K (.ref C_With) (.ref C_Swallow) = some false
  ko_Spare_Swallow : PySem.W.kitOne K (.ref C_Spare) (.ref C_Swallow) = some false
  ko_Without_Swallow : PySem.W.kitOne K (.ref C_Without) (.ref C_Swallow) = some false
  ko_Exchange_Swallow : PySem.W.kitOne K (.ref C_Exchange) (.ref C_Swallow) = some false
  ko_Swallow_Swallow : PySem.W.kitOne K (.ref C_Swallow) (.ref C_Swallow) = some true
  ko_ByPlace_Swallow : PySem.W.kitOne K (.ref C_ByPlace) (.ref C_Swallow) = some false
  ko_ByName_Swallow : PySem.W.kitOne K (.ref C_ByName) (.ref C_Swallow) = some false
  m_ByPlace : mg "ByPlace" = some (.ref C_ByPlace)
  ko_Ahead_ByPlace : PySem.W.kitOne K (.ref C_Ahead) (.ref C_ByPlace) = some false
  ko_With_ByPlace : PySem.W.kitOne K (.ref C_With) (.ref C_ByPlace) = some false
  ko_Spare_ByPlace : PySem.W.kitOne K (.ref C_Spare) (.ref C_ByPlace) = some false
  ko_Without_ByPlace : PySem.W.kitOne K (.ref C_Without) (.ref C_ByPlace) = some false
  ko_Exchange_ByPlace : PySem.W.kitOne K (.ref C_Exchange) (.ref C_ByPlace) = some false
  ko_Swallow_ByPlace : PySem.W.kitOne K (.ref C_Swallow) (.ref C_ByPlace) = some false
  ko_ByPlace_ByPlace : PySem.W.kitOne K (.ref C_ByPlace) (.ref C_ByPlace) = some true
  ko_ByName_ByPlace : PySem.W.kitOne K (.ref C_ByName) (.ref C_ByPlace) = some false
  m_ByName : mg "ByName" = some (.ref C_ByName)
  ko_Ahead_ByName : PySem.W.kitOne K (.ref C_Ahead) (.ref C_ByName) = some false
  ko_With_ByName : PySem.W.kitOne K (.ref C_With) (.ref C_ByName) = some false
  ko_Spare_ByName : PySem.W.kitOne K (.ref C_Spare) (.ref C_ByName) = some false
  ko_Without_ByName : PySem.W.kitOne K (.ref C_Without) (.ref C_ByName) = some false
  ko_Exchange_ByName : PySem.W.kitOne K (.ref C_Exchange) (.ref C_ByName) = some false
  ko_Swallow_ByName : PySem.W.kitOne K (.ref C_Swallow) (.ref C_ByName) = some false
  ko_ByPlace_ByName : PySem.W.kitOne K (.ref C_ByPlace) (.ref C_ByName) = some false
  ko_ByName_ByName : PySem.W.kitOne K (.ref C_ByName) (.ref C_ByName) = some true
  m_CallError : mg "CallError" = some (.ref C_CallError)
  eo_NoName : ExO K C_NoName
  ko_NoName_CallError : PySem.W.kitOne K (.ref C_NoName) (.ref C_CallError) = some true
  ko_NoName_ValueError : PySem.W.kitOne K (.ref C_NoName) (.type "ValueError") = some true
  m_BadOrder : mg "BadOrder" = some (.ref C_BadOrder)
  m_Misfit : mg "Misfit" = some (.ref C_Misfit)
  m_NoChange : mg "NoChange" = some (.ref C_NoChange)
  m_NoDefault : mg "NoDefault" = some (.ref C_NoDefault)
  m_NoRow : mg "NoRow" = some (.ref C_NoRow)
  m_NoText : mg "NoText" = some (.ref C_NoText)
  m_TooMany : mg "TooMany" = some (.ref C_TooMany)
  m_Twice : mg "Twice" = some (.ref C_Twice)
  m_Unknown : mg "Unknown" = some (.ref C_Unknown)
  ko_NoName_Unknown : PySem.W.kitOne K (.ref C_NoName) (.ref C_Unknown) = some false
  ko_NoName_Twice : PySem.W.kitOne K (.ref C_NoName) (.ref C_Twice) = some false
  ko_NoName_TooMany : PySem.W.kitOne K (.ref C_NoName) (.ref C_TooMany) = some false
  ko_NoName_NoText : PySem.W.kitOne K (.ref C_NoName) (.ref C_NoText) = some false
  ko_NoName_NoRow : PySem.W.kitOne K (.ref C_NoName) (.ref C_NoRow) = some false
  ko_NoName_NoDefault : PySem.W.kitOne K (.ref C_NoName) (.ref C_NoDefault) = some false
  ko_NoName_NoChange : PySem.W.kitOne K (.ref C_NoName) (.ref C_NoChange) = some false
  ko_NoName_Misfit : PySem.W.kitOne K (.ref C_NoName) (.ref C_Misfit) = some false
  ko_NoName_BadOrder : PySem.W.kitOne K (.ref C_NoName) (.ref C_BadOrder) = some false
  xm_NoName_NoName : PySem.W.exmOne K (.ref C_NoName) (.ref C_NoName) = some true
  m_NoName : mg "NoName" = some (.ref C_NoName)
  mk_With : Mk K C_With a_With_init
  mk_Spare : Mk K C_Spare a_Spare_init
  mk_Without : Mk K C_Without a_Without_init
  mk_Exchange : Mk K C_Exchange a_Exchange_init
  na_Without_name : NoAttr K C_Without "name"
  xc_NoName : PySem.W.excIn K C_NoName veB "ValueError.__new__" = true
  kp_NoName : PySem.W.keepIn K (.ref C_NoName) = true
  sb_NoName : PySem.W.subIn K (.ref C_NoName) (.type "BaseException") = some true
  ty_NoName : PySem.W.typeIn K (.ref C_NoName) = some (.type "type")
  na_With_name : NoAttr K C_With "name"
  na_With_thing : NoAttr K C_With "thing"
  na_Spare_name : NoAttr K C_Spare "name"
  na_Spare_thing : NoAttr K C_Spare "thing"
  na_Exchange_one : NoAttr K C_Exchange "one"
  na_Exchange_other : NoAttr K C_Exchange "other"
  mk_Ahead : Mk K C_Ahead a_Ahead_init
  mo_Swallow_o : MkO K C_Swallow
  mo_ByPlace_o : MkO K C_ByPlace
  mo_ByName_o : MkO K C_ByName
  na_Ahead_thing : NoAttr K C_Ahead "thing"
section
variable {P : Program} {w : World} {K : PySem.W.Frag} {mg : Str → Option Value} {base : Heap}
def Tx.cls (T : Tx K mg) : Nat → Addr
  | 0 => T.C_CallError
  | 1 => T.C_NoName
  | 2 => T.C_TooMany
  | 3 => T.C_BadOrder
  | 4 => T.C_Twice
  | 5 => T.C_NoChange
  | 6 => T.C_NoDefault
  | 7 => T.C_NoText
  | 8 => T.C_NoRow
  | 9 => T.C_Unknown
  | 10 => T.C_Misfit
  | 11 => T.C_Cover
  | 12 => T.C_Ahead
  | 13 => T.C_With
  | 14 => T.C_Spare
  | 15 => T.C_Without
  | 16 => T.C_Exchange
  | 17 => T.C_Swallow
  | 18 => T.C_ByPlace
  | 19 => T.C_ByName
  | _ => 0
def Tx.Γ (T : Tx K mg) : Gm := ⟨K, T.cls, flds, none⟩
theorem sc_is_name : FnScope n_is_name p_is_name (defScope s_is_name) := ⟨rfl, rfl, rfl, by decide +kernel, rfl, by decide +kernel, by decide +kernel⟩
theorem ok_is_name (T : Tx K mg) : FnOk P w K mg base (L2.CX P w) 2 T.a_is_name T.d_is_name p_is_name (spD T.Γ 1 den_is_name) := by
  refine fn_ok (Γ := T.Γ) (k := 1) T.u_is_name sc_is_name fun cdv A outer s H E hr => ?_
  exact (ss_cons (s_if (PW.pt (t_or (t_not (t_tru (by rfl) (w_e (e_isB (b := "str") (by rfl) (by rfl) T.z_isinstance (w_peek (pv 0)) (by rfl) T.z_str (by decide +kernel))))) (t_or (t_lt (w_e (e_len (by rfl) (by rfl) T.z_len (aw_cons (w_peek (pv 0)) aw_nil))) (w_e e_int)) (t_or1 (t_gt (w_e (e_len (by rfl) (by rfl) T.z_len (aw_cons (w_peek (pv 0)) aw_nil))) (w_e (e_gint (by rfl) T.g_LONGEST)))))))
 (ss_one (s_ret e_bl))
 ss_nil)
 (ss_one (s_ret (e_all (by rfl) (by rfl) (by rfl) T.z_all (aw_cons (w_n (n_comp (by rfl) sc_is_name.nd (i_str (e_var (pv 0))) (blkOk_by (own := [("sign", 1)]) (N := n_is_name) (sc := defScope s_is_name) (by decide +kernel)) (by decide) (fun _ _ _ _ _ => (g_name (pg_name (i := 1) sc_is_name.nd (by rfl) (by first | exact Or.inl rfl | exact Or.inr rfl)))) (fun _ _ _ _ _ => q_nil) (fun _ _ _ _ _ => (e_in (by rfl) hr.units (w_peek (pv 1)) (w_e (e_gstr (by rfl) T.g_LETTERS)))))) aw_nil)))))
theorem sc__law_nth : FnScope n__law_nth p__law_nth (defScope s__law_nth) := ⟨rfl, rfl, rfl, by decide +kernel, rfl, by decide +kernel, by decide +kernel⟩
theorem ok__law_nth (T : Tx K mg) : FnOk P w K mg base (L2.CX P w) 2 T.a__law_nth T.d__law_nth p__law_nth (spD T.Γ 2 den__law_nth) := by
  refine fn_ok (Γ := T.Γ) (k := 1) T.u__law_nth sc__law_nth fun cdv A outer s H E hr => ?_
  exact (ss_one (s_ret (e_if (t_lt (w_peek (pv 1)) (w_e (e_len (by rfl) (by rfl) T.z_len (aw_cons (w_peek (pv 0)) aw_nil)))) (e_ix (by rfl) (w_peek (pv 0)) (w_peek (pv 1))) e_int)))
theorem sc__law_called : FnScope n__law_called p__law_called (defScope s__law_called) := ⟨rfl, rfl, rfl, by decide +kernel, rfl, by decide +kernel, by decide +kernel⟩
theorem ok__law_called (T : Tx K mg) : FnOk P w K mg base (L2.CX P w) 2 T.a__law_called T.d__law_called p__law_called (spD T.Γ 1 den__law_called) := by
  refine fn_ok (Γ := T.Γ) (k := 1) T.u__law_called sc__law_called fun cdv A outer s H E hr => ?_
  exact (ss_cons (s_if (t_eq (by rfl) hr.units (w_e (e_mod (w_peek (pv 0)) (w_e e_int))) (w_e e_int))
 (ss_one (s_ret (e_ix (by rfl) (w_n (n_lst (a_cons (e_str (by decide +kernel)) (a_cons (e_str (by decide +kernel)) (a_cons (e_str (by decide +kernel)) (a_cons (e_str (by decide +kernel)) (a_cons (e_str (by decide +kernel)) (a_cons (e_str (by decide +kernel)) (a_cons (e_str (by decide +kernel)) (a_cons (e_str (by decide +kernel)) (a_cons (e_str (by decide +kernel)) (a_cons (e_str (by decide +kernel)) a_nil)))))))))))) (w_e (e_mod (w_e (e_fdiv (w_peek (pv 0)) (w_e e_int))) (w_e e_int))))))
 ss_nil)
 (ss_cons (s_set (fun _ h => ps_set (i := 1) sc__law_called.nd (by rfl) (by first | exact Or.inl rfl | exact Or.inr rfl) h) (e_fdiv (w_peek (pv 0)) (w_e e_int)))
 (ss_cons (s_set (fun _ h => ps_set (i := 2) sc__law_called.nd (by rfl) (by first | exact Or.inl rfl | exact Or.inr rfl) h) (e_str (by decide +kernel)))
 (ss_cons (s_for (passes_of (by rfl)) (by rfl) (i_rng1 (by rfl) T.z_range (a_cons (e_add (by rfl) (w_e e_int) (w_e (e_mod (w_e (e_fdiv (w_peek (pv 0)) (w_e e_int))) (w_e e_int)))) a_nil)) (g_name (pg_name (i := 3) sc__law_called.nd (by rfl) (by first | exact Or.inl rfl | exact Or.inr rfl))) (ss_cons (s_set (fun _ h => ps_set (i := 2) sc__law_called.nd (by rfl) (by first | exact Or.inl rfl | exact Or.inr rfl) h) (e_add (by rfl) (w_e (e_ix (by rfl) (w_e (e_str (by decide +kernel))) (w_e (e_mod (w_peek (pv 1)) (w_e e_int))))) (w_peek (pv 2))))
 (ss_one (s_set (fun _ h => ps_set (i := 1) sc__law_called.nd (by rfl) (by first | exact Or.inl rfl | exact Or.inr rfl) h) (e_fdiv (w_peek (pv 1)) (w_e e_int))))) (Ghost.kills [3]))
 (ss_one (s_ret (e_var (pv 2))))))))
theorem sc__law_sorts : FnScope n__law_sorts p__law_sorts (defScope s__law_sorts) := ⟨rfl, rfl, rfl, by decide +kernel, rfl, by decide +kernel, by decide +kernel⟩
theorem ok__law_sorts (T : Tx K mg) : FnOk P w K mg base (L2.CX P w) 2 T.a__law_sorts T.d__law_sorts p__law_sorts (spD T.Γ 1 den__law_sorts) := by
  refine fn_ok (Γ := T.Γ) (k := 1) T.u__law_sorts sc__law_sorts fun cdv A outer s H E hr => ?_
  exact (ss_cons (s_set (fun _ h => ps_set (i := 1) sc__law_sorts.nd (by rfl) (by first | exact Or.inl rfl | exact Or.inr rfl) h) (e_lst (a_cons (e_isO (C := T.C_Ahead) (tab := [(12, true), (13, false), (14, false), (15, false), (16, false), (17, false), (18, false), (19, false)]) (by rfl) (by rfl) T.z_isinstance (w_peek (pv 0)) (by rfl) T.m_Ahead (fa_cons ⟨T.cl_Ahead, T.kc_Ahead, T.oc_n, T.oc_t, T.mo_Ahead, T.ko_Ahead_Ahead⟩ (fa_cons ⟨T.cl_With, T.kc_With, T.oc_n, T.oc_t, T.mo_With, T.ko_With_Ahead⟩ (fa_cons ⟨T.cl_Spare, T.kc_Spare, T.oc_n, T.oc_t, T.mo_Spare, T.ko_Spare_Ahead⟩ (fa_cons ⟨T.cl_Without, T.kc_Without, T.oc_n, T.oc_t, T.mo_Without, T.ko_Without_Ahead⟩ (fa_cons ⟨T.cl_Exchange, T.kc_Exchange, T.oc_n, T.oc_t, T.mo_Exchange, T.ko_Exchange_Ahead⟩ (fa_cons ⟨T.cl_Swallow, T.kc_Swallow, T.oc_n, T.oc_t, T.mo_Swallow, T.ko_Swallow_Ahead⟩ (fa_cons ⟨T.cl_ByPlace, T.kc_ByPlace, T.oc_n, T.oc_t, T.mo_ByPlace, T.ko_ByPlace_Ahead⟩ (fa_cons ⟨T.cl_ByName, T.kc_ByName, T.oc_n, T.oc_t, T.mo_ByName, T.ko_ByName_Ahead⟩ fa_nil))))))))) (a_cons (e_isO (C := T.C_With) (tab := [(12, false), (13, true), (14, false), (15, false), (16, false), (17, false), (18, false), (19, false)]) (by rfl) (by rfl) T.z_isinstance (w_peek (pv 0)) (by rfl) T.m_With (fa_cons ⟨T.cl_Ahead, T.kc_Ahead, T.oc_n, T.oc_t, T.mo_Ahead, T.ko_Ahead_With⟩ (fa_cons ⟨T.cl_With, T.kc_With, T.oc_n, T.oc_t, T.mo_With, T.ko_With_With⟩ (fa_cons ⟨T.cl_Spare, T.kc_Spare, T.oc_n, T.oc_t, T.mo_Spare, T.ko_Spare_With⟩ (fa_cons ⟨T.cl_Without, T.kc_Without, T.oc_n, T.oc_t, T.mo_Without, T.ko_Without_With⟩ (fa_cons ⟨T.cl_Exchange, T.kc_Exchange, T.oc_n, T.oc_t, T.mo_Exchange, T.ko_Exchange_With⟩ (fa_cons ⟨T.cl_Swallow, T.kc_Swallow, T.oc_n, T.oc_t, T.mo_Swallow, T.ko_Swallow_With⟩ (fa_cons ⟨T.cl_ByPlace, T.kc_ByPlace, T.oc_n, T.oc_t, T.mo_ByPlace, T.ko_ByPlace_With⟩ (fa_cons ⟨T.cl_ByName, T.kc_ByName, T.oc_n, T.oc_t, T.mo_ByName, T.ko_ByName_With⟩ fa_nil))))))))) (a_cons (e_isO (C := T.C_Spare) (tab := [(12, false), (13, false), (14, true), (15, false), (16, false), (17, false), (18, false), (19, false)]) (by rfl) (by rfl) T.z_isinstance (w_peek (pv 0)) (by rfl) T.m_Spare (fa_cons ⟨T.cl_Ahead, T.kc_Ahead, T.oc_n, T.oc_t, T.mo_Ahead, T.ko_Ahead_Spare⟩ (fa_cons ⟨T.cl_With, T.kc_With, T.oc_n, T.oc_t, T.mo_With, T.ko_With_Spare⟩ (fa_cons ⟨T.cl_Spare, T.kc_Spare, T.oc_n, T.oc_t, T.mo_Spare, T.ko_Spare_Spare⟩ (fa_cons ⟨T.cl_Without, T.kc_Without, T.oc_n, T.oc_t, T.mo_Without, T.ko_Without_Spare⟩ (fa_cons ⟨T.cl_Exchange, T.kc_Exchange, T.oc_n, T.oc_t, T.mo_Exchange, T.ko_Exchange_Spare⟩ (fa_cons ⟨T.cl_Swallow, T.kc_Swallow, T.oc_n, T.oc_t, T.mo_Swallow, T.ko_Swallow_Spare⟩ (fa_cons ⟨T.cl_ByPlace, T.kc_ByPlace, T.oc_n, T.oc_t, T.mo_ByPlace, T.ko_ByPlace_Spare⟩ (fa_cons ⟨T.cl_ByName, T.kc_ByName, T.oc_n, T.oc_t, T.mo_ByName, T.ko_ByName_Spare⟩ fa_nil))))))))) (a_cons (e_isO (C := T.C_Without) (tab := [(12, false), (13, false), (14, false), (15, true), (16, false), (17, false), (18, false), (19, false)]) (by rfl) (by rfl) T.z_isinstance (w_peek (pv 0)) (by rfl) T.m_Without (fa_cons ⟨T.cl_Ahead, T.kc_Ahead, T.oc_n, T.oc_t, T.mo_Ahead, T.ko_Ahead_Without⟩ (fa_cons ⟨T.cl_With, T.kc_With, T.oc_n, T.oc_t, T.mo_With, T.ko_With_Without⟩ (fa_cons ⟨T.cl_Spare, T.kc_Spare, T.oc_n, T.oc_t, T.mo_Spare, T.ko_Spare_Without⟩ (fa_cons ⟨T.cl_Without, T.kc_Without, T.oc_n, T.oc_t, T.mo_Without, T.ko_Without_Without⟩ (fa_cons ⟨T.cl_Exchange, T.kc_Exchange, T.oc_n, T.oc_t, T.mo_Exchange, T.ko_Exchange_Without⟩ (fa_cons ⟨T.cl_Swallow, T.kc_Swallow, T.oc_n, T.oc_t, T.mo_Swallow, T.ko_Swallow_Without⟩ (fa_cons ⟨T.cl_ByPlace, T.kc_ByPlace, T.oc_n, T.oc_t, T.mo_ByPlace, T.ko_ByPlace_Without⟩ (fa_cons ⟨T.cl_ByName, T.kc_ByName, T.oc_n, T.oc_t, T.mo_ByName, T.ko_ByName_Without⟩ fa_nil))))))))) a_nil))))))
 (ss_cons (s_set (fun _ h => ps_set (i := 1) sc__law_sorts.nd (by rfl) (by first | exact Or.inl rfl | exact Or.inr rfl) h) (e_add (by rfl) (w_peek (pv 1)) (w_n (n_lst (a_cons (e_isO (C := T.C_Exchange) (tab := [(12, false), (13, false), (14, false), (15, false), (16, true), (17, false), (18, false), (19, false)]) (by rfl) (by rfl) T.z_isinstance (w_peek (pv 0)) (by rfl) T.m_Exchange (fa_cons ⟨T.cl_Ahead, T.kc_Ahead, T.oc_n, T.oc_t, T.mo_Ahead, T.ko_Ahead_Exchange⟩ (fa_cons ⟨T.cl_With, T.kc_With, T.oc_n, T.oc_t, T.mo_With, T.ko_With_Exchange⟩ (fa_cons ⟨T.cl_Spare, T.kc_Spare, T.oc_n, T.oc_t, T.mo_Spare, T.ko_Spare_Exchange⟩ (fa_cons ⟨T.cl_Without, T.kc_Without, T.oc_n, T.oc_t, T.mo_Without, T.ko_Without_Exchange⟩ (fa_cons ⟨T.cl_Exchange, T.kc_Exchange, T.oc_n, T.oc_t, T.mo_Exchange, T.ko_Exchange_Exchange⟩ (fa_cons ⟨T.cl_Swallow, T.kc_Swallow, T.oc_n, T.oc_t, T.mo_Swallow, T.ko_Swallow_Exchange⟩ (fa_cons ⟨T.cl_ByPlace, T.kc_ByPlace, T.oc_n, T.oc_t, T.mo_ByPlace, T.ko_ByPlace_Exchange⟩ (fa_cons ⟨T.cl_ByName, T.kc_ByName, T.oc_n, T.oc_t, T.mo_ByName, T.ko_ByName_Exchange⟩ fa_nil))))))))) (a_cons (e_isO (C := T.C_Swallow) (tab := [(12, false), (13, false), (14, false), (15, false), (16, false), (17, true), (18, false), (19, false)]) (by rfl) (by rfl) T.z_isinstance (w_peek (pv 0)) (by rfl) T.m_Swallow (fa_cons ⟨T.cl_Ahead, T.kc_Ahead, T.oc_n, T.oc_t, T.mo_Ahead, T.ko_Ahead_Swallow⟩ (fa_cons ⟨T.cl_With, T.kc_With, T.oc_n, T.oc_t, T.mo_With, T.ko_With_Swallow⟩ (fa_cons ⟨T.cl_Spare, T.kc_Spare, T.oc_n, T.oc_t, T.mo_Spare, T.ko_Spare_Swallow⟩ (fa_cons ⟨T.cl_Without, T.kc_Without, T.oc_n, T.oc_t, T.mo_Without, T.ko_Without_Swallow⟩ (fa_cons ⟨T.cl_Exchange, T.kc_Exchange, T.oc_n, T.oc_t, T.mo_Exchange, T.ko_Exchange_Swallow⟩ (fa_cons ⟨T.cl_Swallow, T.kc_Swallow, T.oc_n, T.oc_t, T.mo_Swallow, T.ko_Swallow_Swallow⟩ (fa_cons ⟨T.cl_ByPlace, T.kc_ByPlace, T.oc_n, T.oc_t, T.mo_ByPlace, T.ko_ByPlace_Swallow⟩ (fa_cons ⟨T.cl_ByName, T.kc_ByName, T.oc_n, T.oc_t, T.mo_ByName, T.ko_ByName_Swallow⟩ fa_nil))))))))) (a_cons (e_isO (C := T.C_ByPlace) (tab := [(12, false), (13, false), (14, false), (15, false), (16, false), (17, false), (18, true), (19, false)]) (by rfl) (by rfl) T.z_isinstance (w_peek (pv 0)) (by rfl) T.m_ByPlace (fa_cons ⟨T.cl_Ahead, T.kc_Ahead, T.oc_n, T.oc_t, T.mo_Ahead, T.ko_Ahead_ByPlace⟩ (fa_cons ⟨T.cl_With, T.kc_With, T.oc_n, T.oc_t, T.mo_With, T.ko_With_ByPlace⟩ (fa_cons ⟨T.cl_Spare, T.kc_Spare, T.oc_n, T.oc_t, T.mo_Spare, T.ko_Spare_ByPlace⟩ (fa_cons ⟨T.cl_Without, T.kc_Without, T.oc_n, T.oc_t, T.mo_Without, T.ko_Without_ByPlace⟩ (fa_cons ⟨T.cl_Exchange, T.kc_Exchange, T.oc_n, T.oc_t, T.mo_Exchange, T.ko_Exchange_ByPlace⟩ (fa_cons ⟨T.cl_Swallow, T.kc_Swallow, T.oc_n, T.oc_t, T.mo_Swallow, T.ko_Swallow_ByPlace⟩ (fa_cons ⟨T.cl_ByPlace, T.kc_ByPlace, T.oc_n, T.oc_t, T.mo_ByPlace, T.ko_ByPlace_ByPlace⟩ (fa_cons ⟨T.cl_ByName, T.kc_ByName, T.oc_n, T.oc_t, T.mo_ByName, T.ko_ByName_ByPlace⟩ fa_nil))))))))) a_nil)))))))
 (ss_one (s_ret (e_add (by rfl) (w_peek (pv 1)) (w_n (n_lst (a_cons (e_isO (C := T.C_ByName) (tab := [(12, false), (13, false), (14, false), (15, false), (16, false), (17, false), (18, false), (19, true)]) (by rfl) (by rfl) T.z_isinstance (w_peek (pv 0)) (by rfl) T.m_ByName (fa_cons ⟨T.cl_Ahead, T.kc_Ahead, T.oc_n, T.oc_t, T.mo_Ahead, T.ko_Ahead_ByName⟩ (fa_cons ⟨T.cl_With, T.kc_With, T.oc_n, T.oc_t, T.mo_With, T.ko_With_ByName⟩ (fa_cons ⟨T.cl_Spare, T.kc_Spare, T.oc_n, T.oc_t, T.mo_Spare, T.ko_Spare_ByName⟩ (fa_cons ⟨T.cl_Without, T.kc_Without, T.oc_n, T.oc_t, T.mo_Without, T.ko_Without_ByName⟩ (fa_cons ⟨T.cl_Exchange, T.kc_Exchange, T.oc_n, T.oc_t, T.mo_Exchange, T.ko_Exchange_ByName⟩ (fa_cons ⟨T.cl_Swallow, T.kc_Swallow, T.oc_n, T.oc_t, T.mo_Swallow, T.ko_Swallow_ByName⟩ (fa_cons ⟨T.cl_ByPlace, T.kc_ByPlace, T.oc_n, T.oc_t, T.mo_ByPlace, T.ko_ByPlace_ByName⟩ (fa_cons ⟨T.cl_ByName, T.kc_ByName, T.oc_n, T.oc_t, T.mo_ByName, T.ko_ByName_ByName⟩ fa_nil))))))))) a_nil))))))))
theorem sc_Ahead_init : FnScope n_Ahead_init p_Ahead_init (defScope s_Ahead_init) := ⟨rfl, rfl, rfl, by decide +kernel, rfl, by decide +kernel, by decide +kernel⟩
theorem ok_Ahead_init (T : Tx K mg) : FnOk P w K mg base (L2.CX P w) 2 T.a_Ahead_init T.d_Ahead_init p_Ahead_init (spI T.Γ 1 den_Ahead_init) := by
  refine init_ok (Γ := T.Γ) (k := 1) T.u_Ahead_init sc_Ahead_init rfl fun cdv A outer s H E hr => ?_
  exact (ss_one (s_fst (tab := [(12, 0)]) (by rfl) (fa_cons ⟨T.cl_Ahead, T.na_Ahead_thing, by rfl, flds_small 12⟩ fa_nil) (pv 0) (e_var (pv 1))))
theorem sc_checked : FnScope n_checked p_checked (defScope s_checked) := ⟨rfl, rfl, rfl, by decide +kernel, rfl, by decide +kernel, by decide +kernel⟩
theorem ok_checked (T : Tx K mg) : FnOk P w K mg base (L2.CX P w) 4 T.a_checked T.d_checked p_checked (spD T.Γ 1 den_checked) := by
  refine fn_ok (Γ := T.Γ) (k := 3) T.u_checked sc_checked fun cdv A outer s H E hr => ?_
  exact (ss_cons (s_if (t_not (t_tru (by rfl) (w_e (e_call (k := 2) (FnD.mk0 (FnOk.mono (ok_is_name T) (by decide)) T.b_is_name T.u_is_name.kp) (hr.mono (by decide)) (takes_of (by rfl) (by rfl) (by rfl) (by rfl)) (by rfl) T.m_is_name (a_cons (e_var (pv 0)) a_nil)))))
 (ss_one (s_raise0 (c := 1) (by rfl) (takes_of (by rfl) (by rfl) (by rfl) (by rfl)) T.xc_NoName T.m_NoName T.kp_NoName T.sb_NoName T.ty_NoName (by rfl)))
 ss_nil)
 (ss_one (s_ret (e_var (pv 0)))))
theorem sc__law_no_name : FnScope n__law_no_name p__law_no_name (defScope s__law_no_name) := ⟨rfl, rfl, rfl, by decide +kernel, rfl, by decide +kernel, by decide +kernel⟩
theorem ok__law_no_name (T : Tx K mg) : FnOk P w K mg base (L2.CX P w) 4 T.a__law_no_name T.d__law_no_name p__law_no_name (spD T.Γ 1 den__law_no_name) := by
  refine fn_ok (Γ := T.Γ) (k := 3) T.u__law_no_name sc__law_no_name fun cdv A outer s H E hr => ?_
  exact (ss_cons (s_set (fun _ h => ps_set (i := 1) sc__law_no_name.nd (by rfl) (by first | exact Or.inl rfl | exact Or.inr rfl) h) (e_call (k := 2) (FnD.mk0 (FnOk.mono (ok__law_called T) (by decide)) T.b__law_called T.u__law_called.kp) (hr.mono (by decide)) (takes_of (by rfl) (by rfl) (by rfl) (by rfl)) (by rfl) T.m__law_called (a_cons (e_fdiv (w_peek (pv 0)) (w_e e_int)) a_nil)))
 (ss_cons (s_set (fun _ h => ps_set (i := 2) sc__law_no_name.nd (by rfl) (by first | exact Or.inl rfl | exact Or.inr rfl) h) (e_mod (w_e (e_mod (w_e (e_fdiv (w_peek (pv 0)) (w_e e_int))) (w_e e_int))) (w_e (e_len (by rfl) (by rfl) T.z_len (aw_cons (w_peek (pv 1)) aw_nil)))))
 (ss_cons (s_set (fun _ h => ps_set (i := 3) sc__law_no_name.nd (by rfl) (by first | exact Or.inl rfl | exact Or.inr rfl) h) (e_lst (a_cons (e_str (by decide +kernel)) (a_cons (e_add (by rfl) (w_peek (pv 1)) (w_e (e_str (by decide +kernel)))) (a_cons e_non (a_cons e_int (a_cons e_bl (a_cons (e_lst (a_cons (e_var (pv 1)) a_nil)) (a_cons (e_tup (a_cons (e_var (pv 1)) a_nil)) (a_cons (e_upper (e_var (pv 1))) a_nil))))))))))
 (ss_cons (s_if (t_lt (w_e (e_mod (w_peek (pv 0)) (w_e e_int))) (w_e e_int))
 (ss_one (s_ret (e_ix (by rfl) (w_peek (pv 3)) (w_e (e_mod (w_peek (pv 0)) (w_e e_int))))))
 ss_nil)
 (ss_cons (s_if (t_eq (by rfl) hr.units (w_e (e_mod (w_peek (pv 0)) (w_e e_int))) (w_e e_int))
 (ss_one (s_ret (e_add (by rfl) (w_peek (pv 1)) (w_e (e_str (by decide +kernel))))))
 ss_nil)
 (ss_cons (s_set (fun _ h => ps_set (i := 4) sc__law_no_name.nd (by rfl) (by first | exact Or.inl rfl | exact Or.inr rfl) h) (e_str (by decide +kernel)))
 (ss_one (s_ret (e_add (by rfl) (w_e (e_add (by rfl) (w_e (e_slice (by rfl) (w_peek (pv 1)) o_none (o_some (e_var (pv 2))))) (w_e (e_ix (by rfl) (w_peek (pv 4)) (w_e (e_mod (w_e (e_fdiv (w_peek (pv 0)) (w_e e_int))) (w_e e_int))))))) (w_e (e_slice (by rfl) (w_peek (pv 1)) (o_some (e_add (by rfl) (w_peek (pv 2)) (w_e (e_int1 (by rfl) T.z_int (aw_cons (w_e (e_lt (w_e (e_mod (w_peek (pv 0)) (w_e e_int))) (w_e e_int))) aw_nil))))) o_none)))))))))))
theorem sc__law_cover : FnScope n__law_cover p__law_cover (defScope s__law_cover) := ⟨rfl, rfl, rfl, by decide +kernel, rfl, by decide +kernel, by decide +kernel⟩
theorem ok__law_cover (T : Tx K mg) : FnOk P w K mg base (L2.CX P w) 4 T.a__law_cover T.d__law_cover p__law_cover (spD T.Γ 2 den__law_cover) := by
  refine fn_ok (Γ := T.Γ) (k := 3) T.u__law_cover sc__law_cover fun cdv A outer s H E hr => ?_
  exact (ss_cons (s_set (fun _ h => ps_set (i := 2) sc__law_cover.nd (by rfl) (by first | exact Or.inl rfl | exact Or.inr rfl) h) (e_call (k := 2) (FnD.mk0 (FnOk.mono (ok__law_called T) (by decide)) T.b__law_called T.u__law_called.kp) (hr.mono (by decide)) (takes_of (by rfl) (by rfl) (by rfl) (by rfl)) (by rfl) T.m__law_called (a_cons (e_fdiv (w_peek (pv 0)) (w_e e_int)) a_nil)))
 (ss_cons (s_if (PW.pt (t_and (t_ne (by rfl) hr.units (w_peek (pv 1)) (w_n (n_lst a_nil))) (t_and1 (t_eq (by rfl) hr.units (w_e (e_mod (w_e (e_fdiv (w_peek (pv 0)) (w_e e_int))) (w_e e_int))) (w_e e_int)))))
 (ss_one (s_set (fun _ h => ps_set (i := 2) sc__law_cover.nd (by rfl) (by first | exact Or.inl rfl | exact Or.inr rfl) h) (e_ix (by rfl) (w_peek (pv 1)) (w_e (e_mod (w_e (e_fdiv (w_peek (pv 0)) (w_e e_int))) (w_e (e_len (by rfl) (by rfl) T.z_len (aw_cons (w_peek (pv 1)) aw_nil))))))))
 ss_nil)
 (ss_cons (s_set (fun _ h => ps_set (i := 3) sc__law_cover.nd (by rfl) (by first | exact Or.inl rfl | exact Or.inr rfl) h) (e_call (k := 2) (FnD.mk0 (FnOk.mono (ok__law_called T) (by decide)) T.b__law_called T.u__law_called.kp) (hr.mono (by decide)) (takes_of (by rfl) (by rfl) (by rfl) (by rfl)) (by rfl) T.m__law_called (a_cons (e_fdiv (w_peek (pv 0)) (w_e e_int)) a_nil)))
 (ss_cons (s_set (fun _ h => ps_set (i := 4) sc__law_cover.nd (by rfl) (by first | exact Or.inl rfl | exact Or.inr rfl) h) (e_sub (w_e (e_mod (w_e (e_fdiv (w_peek (pv 0)) (w_e e_int))) (w_e e_int))) (w_e e_int)))
 (ss_cons (s_if (t_eq (by rfl) hr.units (w_e (e_mod (w_e (e_fdiv (w_peek (pv 0)) (w_e e_int))) (w_e e_int))) (w_e e_int))
 (ss_one (s_set (fun _ h => ps_set (i := 4) sc__law_cover.nd (by rfl) (by first | exact Or.inl rfl | exact Or.inr rfl) h) (e_add (by rfl) (w_e (e_sub (w_e (e_mod (w_e (e_fdiv (w_peek (pv 0)) (w_e e_int))) (w_e (e_sub (w_e (e_mul (w_e e_int) (w_e (e_pow (w_e e_int) (w_e e_int))))) (w_e e_int))))) (w_e (e_pow (w_e e_int) (w_e e_int))))) (w_e e_int))))
 ss_nil)
 (ss_cons (s_set (fun _ h => ps_set (i := 5) sc__law_cover.nd (by rfl) (by first | exact Or.inl rfl | exact Or.inr rfl) h) (e_mod (w_peek (pv 0)) (w_e e_int)))
 (ss_cons (s_if (t_eq (by rfl) hr.units (w_peek (pv 5)) (w_e e_int))
 (ss_one (s_ret (e_tup (a_cons (e_str (by decide +kernel)) (a_cons (e_var (pv 4)) a_nil)))))
 ss_nil)
 (ss_cons (s_if (t_lt (w_peek (pv 5)) (w_e e_int))
 (ss_one (s_ret (e_tup (a_cons (e_ix (by rfl) (w_n (n_lst (a_cons (e_str (by decide +kernel)) (a_cons (e_str (by decide +kernel)) a_nil)))) (w_e (e_sub (w_peek (pv 5)) (w_e e_int)))) (a_cons (e_var (pv 2)) (a_cons (e_var (pv 4)) a_nil))))))
 ss_nil)
 (ss_cons (s_if (t_eq (by rfl) hr.units (w_peek (pv 5)) (w_e e_int))
 (ss_one (s_ret (e_tup (a_cons (e_str (by decide +kernel)) (a_cons (e_var (pv 2)) a_nil)))))
 ss_nil)
 (ss_cons (s_if (t_eq (by rfl) hr.units (w_peek (pv 5)) (w_e e_int))
 (ss_one (s_ret (e_tup (a_cons (e_str (by decide +kernel)) (a_cons (e_var (pv 2)) (a_cons (e_var (pv 3)) a_nil))))))
 ss_nil)
 (ss_one (s_ret (e_ix (by rfl) (w_n (n_lst (a_cons (e_tup (a_cons (e_str (by decide +kernel)) a_nil)) (a_cons (e_tup (a_cons (e_str (by decide +kernel)) a_nil)) (a_cons (e_tup (a_cons (e_str (by decide +kernel)) a_nil)) a_nil))))) (w_e (e_sub (w_peek (pv 5)) (w_e e_int))))))))))))))))
theorem sc_With_init : FnScope n_With_init p_With_init (defScope s_With_init) := ⟨rfl, rfl, rfl, by decide +kernel, rfl, by decide +kernel, by decide +kernel⟩
theorem ok_With_init (T : Tx K mg) : FnOk P w K mg base (L2.CX P w) 6 T.a_With_init T.d_With_init p_With_init (spI T.Γ 2 den_With_init) := by
  refine init_ok (Γ := T.Γ) (k := 5) T.u_With_init sc_With_init rfl fun cdv A outer s H E hr => ?_
  exact (ss_cons (s_fst (tab := [(13, 0)]) (by rfl) (fa_cons ⟨T.cl_With, T.na_With_name, by rfl, flds_small 13⟩ fa_nil) (pv 0) (e_call (k := 4) (FnD.mk0 (FnOk.mono (ok_checked T) (by decide)) T.b_checked T.u_checked.kp) (hr.mono (by decide)) (takes_of (by rfl) (by rfl) (by rfl) (by rfl)) (by rfl) T.m_checked (a_cons (e_var (pv 1)) a_nil)))
 (ss_one (s_fst (tab := [(13, 1)]) (by rfl) (fa_cons ⟨T.cl_With, T.na_With_thing, by rfl, flds_small 13⟩ fa_nil) (pv 0) (e_var (pv 2)))))
theorem sc_Spare_init : FnScope n_Spare_init p_Spare_init (defScope s_Spare_init) := ⟨rfl, rfl, rfl, by decide +kernel, rfl, by decide +kernel, by decide +kernel⟩
theorem ok_Spare_init (T : Tx K mg) : FnOk P w K mg base (L2.CX P w) 6 T.a_Spare_init T.d_Spare_init p_Spare_init (spI T.Γ 2 den_Spare_init) := by
  refine init_ok (Γ := T.Γ) (k := 5) T.u_Spare_init sc_Spare_init rfl fun cdv A outer s H E hr => ?_
  exact (ss_cons (s_fst (tab := [(14, 0)]) (by rfl) (fa_cons ⟨T.cl_Spare, T.na_Spare_name, by rfl, flds_small 14⟩ fa_nil) (pv 0) (e_call (k := 4) (FnD.mk0 (FnOk.mono (ok_checked T) (by decide)) T.b_checked T.u_checked.kp) (hr.mono (by decide)) (takes_of (by rfl) (by rfl) (by rfl) (by rfl)) (by rfl) T.m_checked (a_cons (e_var (pv 1)) a_nil)))
 (ss_one (s_fst (tab := [(14, 1)]) (by rfl) (fa_cons ⟨T.cl_Spare, T.na_Spare_thing, by rfl, flds_small 14⟩ fa_nil) (pv 0) (e_var (pv 2)))))
theorem sc_Without_init : FnScope n_Without_init p_Without_init (defScope s_Without_init) := ⟨rfl, rfl, rfl, by decide +kernel, rfl, by decide +kernel, by decide +kernel⟩
theorem ok_Without_init (T : Tx K mg) : FnOk P w K mg base (L2.CX P w) 6 T.a_Without_init T.d_Without_init p_Without_init (spI T.Γ 1 den_Without_init) := by
  refine init_ok (Γ := T.Γ) (k := 5) T.u_Without_init sc_Without_init rfl fun cdv A outer s H E hr => ?_
  exact (ss_one (s_fst (tab := [(15, 0)]) (by rfl) (fa_cons ⟨T.cl_Without, T.na_Without_name, by rfl, flds_small 15⟩ fa_nil) (pv 0) (e_call (k := 4) (FnD.mk0 (FnOk.mono (ok_checked T) (by decide)) T.b_checked T.u_checked.kp) (hr.mono (by decide)) (takes_of (by rfl) (by rfl) (by rfl) (by rfl)) (by rfl) T.m_checked (a_cons (e_var (pv 1)) a_nil))))
theorem sc_Exchange_init : FnScope n_Exchange_init p_Exchange_init (defScope s_Exchange_init) := ⟨rfl, rfl, rfl, by decide +kernel, rfl, by decide +kernel, by decide +kernel⟩
theorem ok_Exchange_init (T : Tx K mg) : FnOk P w K mg base (L2.CX P w) 6 T.a_Exchange_init T.d_Exchange_init p_Exchange_init (spI T.Γ 2 den_Exchange_init) := by
  refine init_ok (Γ := T.Γ) (k := 5) T.u_Exchange_init sc_Exchange_init rfl fun cdv A outer s H E hr => ?_
  exact (ss_cons (s_fst (tab := [(16, 0)]) (by rfl) (fa_cons ⟨T.cl_Exchange, T.na_Exchange_one, by rfl, flds_small 16⟩ fa_nil) (pv 0) (e_call (k := 4) (FnD.mk0 (FnOk.mono (ok_checked T) (by decide)) T.b_checked T.u_checked.kp) (hr.mono (by decide)) (takes_of (by rfl) (by rfl) (by rfl) (by rfl)) (by rfl) T.m_checked (a_cons (e_var (pv 1)) a_nil)))
 (ss_one (s_fst (tab := [(16, 1)]) (by rfl) (fa_cons ⟨T.cl_Exchange, T.na_Exchange_other, by rfl, flds_small 16⟩ fa_nil) (pv 0) (e_call (k := 4) (FnD.mk0 (FnOk.mono (ok_checked T) (by decide)) T.b_checked T.u_checked.kp) (hr.mono (by decide)) (takes_of (by rfl) (by rfl) (by rfl) (by rfl)) (by rfl) T.m_checked (a_cons (e_var (pv 2)) a_nil)))))
theorem sc__law_cover_of : FnScope n__law_cover_of p__law_cover_of (defScope s__law_cover_of) := ⟨rfl, rfl, rfl, by decide +kernel, rfl, by decide +kernel, by decide +kernel⟩
theorem ok__law_cover_of (T : Tx K mg) : FnOk P w K mg base (L2.CX P w) 8 T.a__law_cover_of T.d__law_cover_of p__law_cover_of (spD T.Γ 1 den__law_cover_of) := by
  refine fn_ok (Γ := T.Γ) (k := 7) T.u__law_cover_of sc__law_cover_of fun cdv A outer s H E hr => ?_
  exact (ss_cons (s_if (t_eq (by rfl) hr.units (w_e (e_ix (by rfl) (w_peek (pv 0)) (w_e e_int))) (w_e (e_str (by decide +kernel))))
 (ss_one (s_ret (e_make (c := 12) (nf := 1) (k := 2) ⟨_, T.mk_Ahead, (InD.mk0 (FnOk.mono (ok_Ahead_init T) (by decide)) T.b_Ahead_init T.u_Ahead_init.kp)⟩ (by rfl) (hr.mono (by decide)) (takes_of (by rfl) (by rfl) (by rfl) (by rfl)) (by rfl) T.m_Ahead (a_cons (e_ix (by rfl) (w_peek (pv 0)) (w_e e_int)) a_nil))))
 ss_nil)
 (ss_cons (s_if (t_eq (by rfl) hr.units (w_e (e_ix (by rfl) (w_peek (pv 0)) (w_e e_int))) (w_e (e_str (by decide +kernel))))
 (ss_one (s_ret (e_make (c := 13) (nf := 2) (k := 6) ⟨_, T.mk_With, (InD.mk0 (FnOk.mono (ok_With_init T) (by decide)) T.b_With_init T.u_With_init.kp)⟩ (by rfl) (hr.mono (by decide)) (takes_of (by rfl) (by rfl) (by rfl) (by rfl)) (by rfl) T.m_With (a_cons (e_ix (by rfl) (w_peek (pv 0)) (w_e e_int)) (a_cons (e_ix (by rfl) (w_peek (pv 0)) (w_e e_int)) a_nil)))))
 ss_nil)
 (ss_cons (s_if (t_eq (by rfl) hr.units (w_e (e_ix (by rfl) (w_peek (pv 0)) (w_e e_int))) (w_e (e_str (by decide +kernel))))
 (ss_one (s_ret (e_make (c := 14) (nf := 2) (k := 6) ⟨_, T.mk_Spare, (InD.mk0 (FnOk.mono (ok_Spare_init T) (by decide)) T.b_Spare_init T.u_Spare_init.kp)⟩ (by rfl) (hr.mono (by decide)) (takes_of (by rfl) (by rfl) (by rfl) (by rfl)) (by rfl) T.m_Spare (a_cons (e_ix (by rfl) (w_peek (pv 0)) (w_e e_int)) (a_cons (e_ix (by rfl) (w_peek (pv 0)) (w_e e_int)) a_nil)))))
 ss_nil)
 (ss_cons (s_if (t_eq (by rfl) hr.units (w_e (e_ix (by rfl) (w_peek (pv 0)) (w_e e_int))) (w_e (e_str (by decide +kernel))))
 (ss_one (s_ret (e_make (c := 15) (nf := 1) (k := 6) ⟨_, T.mk_Without, (InD.mk0 (FnOk.mono (ok_Without_init T) (by decide)) T.b_Without_init T.u_Without_init.kp)⟩ (by rfl) (hr.mono (by decide)) (takes_of (by rfl) (by rfl) (by rfl) (by rfl)) (by rfl) T.m_Without (a_cons (e_ix (by rfl) (w_peek (pv 0)) (w_e e_int)) a_nil))))
 ss_nil)
 (ss_cons (s_if (t_eq (by rfl) hr.units (w_e (e_ix (by rfl) (w_peek (pv 0)) (w_e e_int))) (w_e (e_str (by decide +kernel))))
 (ss_one (s_ret (e_make (c := 16) (nf := 2) (k := 6) ⟨_, T.mk_Exchange, (InD.mk0 (FnOk.mono (ok_Exchange_init T) (by decide)) T.b_Exchange_init T.u_Exchange_init.kp)⟩ (by rfl) (hr.mono (by decide)) (takes_of (by rfl) (by rfl) (by rfl) (by rfl)) (by rfl) T.m_Exchange (a_cons (e_ix (by rfl) (w_peek (pv 0)) (w_e e_int)) (a_cons (e_ix (by rfl) (w_peek (pv 0)) (w_e e_int)) a_nil)))))
 ss_nil)
 (ss_cons (s_if (t_eq (by rfl) hr.units (w_e (e_ix (by rfl) (w_peek (pv 0)) (w_e e_int))) (w_e (e_str (by decide +kernel))))
 (ss_one (s_ret (e_mkO (c := 17) T.mo_Swallow_o (by rfl) (by rfl) T.m_Swallow)))
 ss_nil)
 (ss_cons (s_if (t_eq (by rfl) hr.units (w_e (e_ix (by rfl) (w_peek (pv 0)) (w_e e_int))) (w_e (e_str (by decide +kernel))))
 (ss_one (s_ret (e_mkO (c := 18) T.mo_ByPlace_o (by rfl) (by rfl) T.m_ByPlace)))
 ss_nil)
 (ss_one (s_ret (e_mkO (c := 19) T.mo_ByName_o (by rfl) (by rfl) T.m_ByName))))))))))
theorem sc__law_bad_made : FnScope n__law_bad_made p__law_bad_made (defScope s__law_bad_made) := ⟨rfl, rfl, rfl, by decide +kernel, rfl, by decide +kernel, by decide +kernel⟩
theorem ok__law_bad_made (T : Tx K mg) : FnOk P w K mg base (L2.CX P w) 8 T.a__law_bad_made T.d__law_bad_made p__law_bad_made (spD T.Γ 3 den__law_bad_made) := by
  refine fn_ok (Γ := T.Γ) (k := 7) T.u__law_bad_made sc__law_bad_made fun cdv A outer s H E hr => ?_
  exact (ss_cons (s_if (t_eq (by rfl) hr.units (w_peek (pv 0)) (w_e e_int))
 (ss_one (s_do (w_e (e_make (c := 13) (nf := 2) (k := 6) ⟨_, T.mk_With, (InD.mk0 (FnOk.mono (ok_With_init T) (by decide)) T.b_With_init T.u_With_init.kp)⟩ (by rfl) (hr.mono (by decide)) (takes_of (by rfl) (by rfl) (by rfl) (by rfl)) (by rfl) T.m_With (a_cons (e_var (pv 2)) (a_cons e_int a_nil))))))
 ss_nil)
 (ss_cons (s_if (t_eq (by rfl) hr.units (w_peek (pv 0)) (w_e e_int))
 (ss_one (s_do (w_e (e_make (c := 14) (nf := 2) (k := 6) ⟨_, T.mk_Spare, (InD.mk0 (FnOk.mono (ok_Spare_init T) (by decide)) T.b_Spare_init T.u_Spare_init.kp)⟩ (by rfl) (hr.mono (by decide)) (takes_of (by rfl) (by rfl) (by rfl) (by rfl)) (by rfl) T.m_Spare (a_cons (e_var (pv 2)) (a_cons e_int a_nil))))))
 ss_nil)
 (ss_cons (s_if (t_eq (by rfl) hr.units (w_peek (pv 0)) (w_e e_int))
 (ss_one (s_do (w_e (e_make (c := 15) (nf := 1) (k := 6) ⟨_, T.mk_Without, (InD.mk0 (FnOk.mono (ok_Without_init T) (by decide)) T.b_Without_init T.u_Without_init.kp)⟩ (by rfl) (hr.mono (by decide)) (takes_of (by rfl) (by rfl) (by rfl) (by rfl)) (by rfl) T.m_Without (a_cons (e_var (pv 2)) a_nil)))))
 ss_nil)
 (ss_cons (s_if (t_eq (by rfl) hr.units (w_peek (pv 0)) (w_e e_int))
 (ss_one (s_do (w_e (e_make (c := 16) (nf := 2) (k := 6) ⟨_, T.mk_Exchange, (InD.mk0 (FnOk.mono (ok_Exchange_init T) (by decide)) T.b_Exchange_init T.u_Exchange_init.kp)⟩ (by rfl) (hr.mono (by decide)) (takes_of (by rfl) (by rfl) (by rfl) (by rfl)) (by rfl) T.m_Exchange (a_cons (e_var (pv 2)) (a_cons (e_var (pv 1)) a_nil))))))
 ss_nil)
 (ss_cons (s_if (t_eq (by rfl) hr.units (w_peek (pv 0)) (w_e e_int))
 (ss_one (s_do (w_e (e_make (c := 16) (nf := 2) (k := 6) ⟨_, T.mk_Exchange, (InD.mk0 (FnOk.mono (ok_Exchange_init T) (by decide)) T.b_Exchange_init T.u_Exchange_init.kp)⟩ (by rfl) (hr.mono (by decide)) (takes_of (by rfl) (by rfl) (by rfl) (by rfl)) (by rfl) T.m_Exchange (a_cons (e_var (pv 1)) (a_cons (e_var (pv 2)) a_nil))))))
 ss_nil)
 (ss_one (s_if (t_eq (by rfl) hr.units (w_peek (pv 0)) (w_e e_int))
 (ss_one (s_do (w_e (e_make (c := 16) (nf := 2) (k := 6) ⟨_, T.mk_Exchange, (InD.mk0 (FnOk.mono (ok_Exchange_init T) (by decide)) T.b_Exchange_init T.u_Exchange_init.kp)⟩ (by rfl) (hr.mono (by decide)) (takes_of (by rfl) (by rfl) (by rfl) (by rfl)) (by rfl) T.m_Exchange (a_cons (e_var (pv 2)) (a_cons (e_var (pv 2)) a_nil))))))
 ss_nil)))))))
theorem sc__law_refused : FnScope n__law_refused p__law_refused (defScope s__law_refused) := ⟨rfl, rfl, rfl, by decide +kernel, rfl, by decide +kernel, by decide +kernel⟩
theorem ok__law_refused (T : Tx K mg) : FnOk P w K mg base (L2.CX P w) 10 T.a__law_refused T.d__law_refused p__law_refused (spD T.Γ 3 den__law_refused) := by
  refine fn_ok (Γ := T.Γ) (k := 9) T.u__law_refused sc__law_refused fun cdv A outer s H E hr => ?_
  exact (ss_cons (s_set (fun _ h => ps_set (i := 3) sc__law_refused.nd (by rfl) (by first | exact Or.inl rfl | exact Or.inr rfl) h) e_bl)
 (ss_cons (s_set (fun _ h => ps_set (i := 4) sc__law_refused.nd (by rfl) (by first | exact Or.inl rfl | exact Or.inr rfl) h) e_bl)
 (ss_cons (s_try_as (i := 5) (tab := [(1, true)]) (by rfl) (by rfl) sc__law_refused.nd (by rfl) (by rfl) ⟨by rfl, by decide, .inl T.m_NoName⟩ (takes_of (by rfl) (by rfl) (by rfl) (by rfl)) (fa_cons T.xm_NoName_NoName fa_nil)
 (fun W' pn xe tk' _ => (ss_one (s_do (w_e (e_call (k := 8) (FnD.mk0 (FnOk.mono (ok__law_bad_made T) (by decide)) T.b__law_bad_made T.u__law_bad_made.kp) (hr.mono (by decide)) tk' (by rfl) T.m__law_bad_made (a_cons (e_var (pv 0)) (a_cons (e_var (pv 1)) (a_cons (e_var (pv 2)) a_nil))))))))
 (fun a oe cls d pn hz hf => (ss_cons (s_set (fun _ h => ps_set (i := 3) sc__law_refused.nd (by rfl) (by first | exact Or.inl rfl | exact Or.inr rfl) h) (e_and (e_isE (cx := .ref T.C_CallError) (cv := .ref T.C_CallError) (tab := [(1, true)]) hz hf (by rfl) T.z_isinstance (pv 5) (pe_glob (v := .ref T.C_CallError) (by rfl) T.m_CallError rfl) (.own _) (fa_cons ⟨T.eo_NoName, T.ko_NoName_CallError⟩ fa_nil)) (e_one (e_isE (cx := .ty "ValueError") (cv := .type "ValueError") (tab := [(1, true)]) hz hf (by rfl) T.z_isinstance (pv 5) (pe_bltn (v := .ty "ValueError") (by rfl) T.z_ValueError (by decide +kernel) rfl) (.ty _) (fa_cons ⟨T.eo_NoName, T.ko_NoName_ValueError⟩ fa_nil)))))
 (ss_one (s_set (fun _ h => ps_set (i := 4) sc__law_refused.nd (by rfl) (by first | exact Or.inl rfl | exact Or.inr rfl) h) (e_isEt (cs := [.ref T.C_BadOrder, .ref T.C_Misfit, .ref T.C_NoChange, .ref T.C_NoDefault, .ref T.C_NoRow, .ref T.C_NoText, .ref T.C_TooMany, .ref T.C_Twice, .ref T.C_Unknown]) (us := [.ref T.C_BadOrder, .ref T.C_Misfit, .ref T.C_NoChange, .ref T.C_NoDefault, .ref T.C_NoRow, .ref T.C_NoText, .ref T.C_TooMany, .ref T.C_Twice, .ref T.C_Unknown]) (tab := [(1, false)]) hz hf (by rfl) T.z_isinstance (pv 5) (pa_cons (pe_glob (v := .ref T.C_BadOrder) (by rfl) T.m_BadOrder rfl) (pa_cons (pe_glob (v := .ref T.C_Misfit) (by rfl) T.m_Misfit rfl) (pa_cons (pe_glob (v := .ref T.C_NoChange) (by rfl) T.m_NoChange rfl) (pa_cons (pe_glob (v := .ref T.C_NoDefault) (by rfl) T.m_NoDefault rfl) (pa_cons (pe_glob (v := .ref T.C_NoRow) (by rfl) T.m_NoRow rfl) (pa_cons (pe_glob (v := .ref T.C_NoText) (by rfl) T.m_NoText rfl) (pa_cons (pe_glob (v := .ref T.C_TooMany) (by rfl) T.m_TooMany rfl) (pa_cons (pe_glob (v := .ref T.C_Twice) (by rfl) T.m_Twice rfl) (pa_cons (pe_glob (v := .ref T.C_Unknown) (by rfl) T.m_Unknown rfl) pa_nil))))))))) (.cons (.own _) (.cons (.own _) (.cons (.own _) (.cons (.own _) (.cons (.own _) (.cons (.own _) (.cons (.own _) (.cons (.own _) (.cons (.own _) .nil))))))))) (by show 9 ≤ sizeLine; decide) (fa_cons ⟨T.eo_NoName, (kitAny_cons T.ko_NoName_BadOrder (fun _ => (kitAny_cons T.ko_NoName_Misfit (fun _ => (kitAny_cons T.ko_NoName_NoChange (fun _ => (kitAny_cons T.ko_NoName_NoDefault (fun _ => (kitAny_cons T.ko_NoName_NoRow (fun _ => (kitAny_cons T.ko_NoName_NoText (fun _ => (kitAny_cons T.ko_NoName_TooMany (fun _ => (kitAny_cons T.ko_NoName_Twice (fun _ => (kitAny_cons T.ko_NoName_Unknown (fun _ => kitAny_nil) (fun h => nomatch h))) (fun h => nomatch h))) (fun h => nomatch h))) (fun h => nomatch h))) (fun h => nomatch h))) (fun h => nomatch h))) (fun h => nomatch h))) (fun h => nomatch h))) (fun h => nomatch h))⟩ fa_nil)))))))
 (ss_one (s_ret (e_and (e_var (pv 3)) (e_one (e_not (e_var (pv 4))))))))))
theorem sc_law : FnScope n_law p_law (defScope s_law) := ⟨rfl, rfl, rfl, by decide +kernel, rfl, by decide +kernel, by decide +kernel⟩
theorem ok_law (T : Tx K mg) : FnOk P w K mg base (L2.CX P w) 12 T.a_law T.d_law p_law (spD T.Γ 1 den_law) := by
  refine fn_ok (Γ := T.Γ) (k := 11) T.u_law sc_law fun cdv A outer s H E hr => ?_
  exact (ss_cons (s_set (fun _ h => ps_set (i := 1) sc_law.nd (by rfl) (by first | exact Or.inl rfl | exact Or.inr rfl) h) (e_lst (a_cons (e_str (by decide +kernel)) (a_cons (e_str (by decide +kernel)) (a_cons (e_str (by decide +kernel)) (a_cons (e_str (by decide +kernel)) (a_cons (e_str (by decide +kernel)) (a_cons (e_str (by decide +kernel)) (a_cons (e_str (by decide +kernel)) (a_cons (e_str (by decide +kernel)) a_nil))))))))))
 (ss_cons (s_for (passes_of (by rfl)) (by rfl) (i_list (by rfl) (e_add (by rfl) (w_e (e_slice (by rfl) (w_peek (pv 0)) o_none (o_some e_int))) (w_n (n_lst (a_cons (e_add (by rfl) (w_e (e_call (k := 2) (FnD.mk0 (FnOk.mono (ok__law_nth T) (by decide)) T.b__law_nth T.u__law_nth.kp) (hr.mono (by decide)) (takes_of (by rfl) (by rfl) (by rfl) (by rfl)) (by rfl) T.m__law_nth (a_cons (e_var (pv 0)) (a_cons e_int a_nil)))) (w_e e_int)) a_nil))))) (g_name (pg_name (i := 2) sc_law.nd (by rfl) (by first | exact Or.inl rfl | exact Or.inr rfl))) (ss_cons (s_set (fun _ h => ps_set (i := 3) sc_law.nd (by rfl) (by first | exact Or.inl rfl | exact Or.inr rfl) h) (e_call (k := 4) (FnD.mk0 (FnOk.mono (ok__law_cover T) (by decide)) T.b__law_cover T.u__law_cover.kp) (hr.mono (by decide)) (takes_of (by rfl) (by rfl) (by rfl) (by rfl)) (by rfl) T.m__law_cover (a_cons (e_var (pv 2)) (a_cons (e_lst a_nil) a_nil))))
 (ss_cons (s_set (fun _ h => ps_set (i := 4) sc_law.nd (by rfl) (by first | exact Or.inl rfl | exact Or.inr rfl) h) (e_call (k := 8) (FnD.mk0 (FnOk.mono (ok__law_cover_of T) (by decide)) T.b__law_cover_of T.u__law_cover_of.kp) (hr.mono (by decide)) (takes_of (by rfl) (by rfl) (by rfl) (by rfl)) (by rfl) T.m__law_cover_of (a_cons (e_var (pv 3)) a_nil)))
 (ss_cons (s_if (PW.pt (t_or (t_not (t_tru (by rfl) (w_e (e_isO (C := T.C_Cover) (tab := [(12, true), (13, true), (14, true), (15, true), (16, true), (17, true), (18, true), (19, true)]) (by rfl) (by rfl) T.z_isinstance (w_peek (pv 4)) (by rfl) T.m_Cover (fa_cons ⟨T.cl_Ahead, T.kc_Ahead, T.oc_n, T.oc_t, T.mo_Ahead, T.ko_Ahead_Cover⟩ (fa_cons ⟨T.cl_With, T.kc_With, T.oc_n, T.oc_t, T.mo_With, T.ko_With_Cover⟩ (fa_cons ⟨T.cl_Spare, T.kc_Spare, T.oc_n, T.oc_t, T.mo_Spare, T.ko_Spare_Cover⟩ (fa_cons ⟨T.cl_Without, T.kc_Without, T.oc_n, T.oc_t, T.mo_Without, T.ko_Without_Cover⟩ (fa_cons ⟨T.cl_Exchange, T.kc_Exchange, T.oc_n, T.oc_t, T.mo_Exchange, T.ko_Exchange_Cover⟩ (fa_cons ⟨T.cl_Swallow, T.kc_Swallow, T.oc_n, T.oc_t, T.mo_Swallow, T.ko_Swallow_Cover⟩ (fa_cons ⟨T.cl_ByPlace, T.kc_ByPlace, T.oc_n, T.oc_t, T.mo_ByPlace, T.ko_ByPlace_Cover⟩ (fa_cons ⟨T.cl_ByName, T.kc_ByName, T.oc_n, T.oc_t, T.mo_ByName, T.ko_ByName_Cover⟩ fa_nil)))))))))))) (t_or1 (t_ne (by rfl) hr.units (w_e (e_call (k := 2) (FnD.mk0 (FnOk.mono (ok__law_sorts T) (by decide)) T.b__law_sorts T.u__law_sorts.kp) (hr.mono (by decide)) (takes_of (by rfl) (by rfl) (by rfl) (by rfl)) (by rfl) T.m__law_sorts (a_cons (e_var (pv 4)) a_nil))) (w_n (n_comp (by rfl) sc_law.nd (i_list (by rfl) (e_var (pv 1))) (blkOk_by (own := [("word", 5)]) (N := n_law) (sc := defScope s_law) (by decide +kernel)) (by decide) (fun _ _ _ _ _ => (g_name (pg_name (i := 5) sc_law.nd (by rfl) (by first | exact Or.inl rfl | exact Or.inr rfl)))) (fun _ _ _ _ _ => q_nil) (fun _ _ _ _ _ => (e_eq (by rfl) hr.units (w_peek (pv 5)) (w_e (e_ix (by rfl) (w_peek (pv 3)) (w_e e_int)))))))))))
 (ss_one (s_ret e_bl))
 ss_nil)
 (ss_one (s_if (t_not (t_tru (by rfl) (w_e (e_call (k := 10) (FnD.mk0 (FnOk.mono (ok__law_refused T) (by decide)) T.b__law_refused T.u__law_refused.kp) (hr.mono (by decide)) (takes_of (by rfl) (by rfl) (by rfl) (by rfl)) (by rfl) T.m__law_refused (a_cons (e_mod (w_e (e_fdiv (w_peek (pv 2)) (w_e e_int))) (w_e e_int)) (a_cons (e_call (k := 2) (FnD.mk0 (FnOk.mono (ok__law_called T) (by decide)) T.b__law_called T.u__law_called.kp) (hr.mono (by decide)) (takes_of (by rfl) (by rfl) (by rfl) (by rfl)) (by rfl) T.m__law_called (a_cons (e_fdiv (w_peek (pv 2)) (w_e e_int)) a_nil)) (a_cons (e_call (k := 4) (FnD.mk0 (FnOk.mono (ok__law_no_name T) (by decide)) T.b__law_no_name T.u__law_no_name.kp) (hr.mono (by decide)) (takes_of (by rfl) (by rfl) (by rfl) (by rfl)) (by rfl) T.m__law_no_name (a_cons (e_fdiv (w_peek (pv 2)) (w_e e_int)) a_nil)) a_nil)))))))
 (ss_one (s_ret e_bl))
 ss_nil))))) (Ghost.kills [2, 3, 4]))
 (ss_one (s_ret e_bl))))
end
end Lw

/-! g.end -/
namespace Lw
open PySem PySem.Spec PyProof.Rows L2 Dn
def spLaw (K : PySem.W.Frag) : Sp := fun vs H Q _ => ∃ (a : Addr) (ns : List Int), vs = [.ref a] ∧ SqL K H a (ns.map V.int) ∧ ns.length ≤ 63 ∧ ∀ H', Q (.bl true) H'
theorem law_sp {P : Program} {w : World} {K : PySem.W.Frag} {mg : Str → Option Value} {base : Heap} (T : Tx K mg) : FnOk P w K mg base (L2.CX P w) 12 T.a_law T.d_law ["script"] (spLaw K) := FnOk.imp (ok_law T) fun vs H Q E ⟨a, ns, e, q, hl, k⟩ => end_sp law_true e q hl k
def dD_is_name : He.DefD := ⟨("is_name", none), "is_name", "is_name", defArgs s_is_name, defBody s_is_name, defScope s_is_name, [], []⟩
def dD_checked : He.DefD := ⟨("checked", none), "checked", "checked", defArgs s_checked, defBody s_checked, defScope s_checked, [], []⟩
def dD__law_nth : He.DefD := ⟨("_law_nth", none), "_law_nth", "_law_nth", defArgs s__law_nth, defBody s__law_nth, defScope s__law_nth, [], []⟩
def dD__law_called : He.DefD := ⟨("_law_called", none), "_law_called", "_law_called", defArgs s__law_called, defBody s__law_called, defScope s__law_called, [], []⟩
def dD__law_no_name : He.DefD := ⟨("_law_no_name", none), "_law_no_name", "_law_no_name", defArgs s__law_no_name, defBody s__law_no_name, defScope s__law_no_name, [], []⟩
def dD__law_cover : He.DefD := ⟨("_law_cover", none), "_law_cover", "_law_cover", defArgs s__law_cover, defBody s__law_cover, defScope s__law_cover, [], []⟩
def dD__law_cover_of : He.DefD := ⟨("_law_cover_of", none), "_law_cover_of", "_law_cover_of", defArgs s__law_cover_of, defBody s__law_cover_of, defScope s__law_cover_of, [], []⟩
def dD__law_sorts : He.DefD := ⟨("_law_sorts", none), "_law_sorts", "_law_sorts", defArgs s__law_sorts, defBody s__law_sorts, defScope s__law_sorts, [], []⟩
def dD__law_bad_made : He.DefD := ⟨("_law_bad_made", none), "_law_bad_made", "_law_bad_made", defArgs s__law_bad_made, defBody s__law_bad_made, defScope s__law_bad_made, [], []⟩
def dD__law_refused : He.DefD := ⟨("_law_refused", none), "_law_refused", "_law_refused", defArgs s__law_refused, defBody s__law_refused, defScope s__law_refused, [], []⟩
def dD_law : He.DefD := ⟨("law", none), "law", "law", defArgs s_law, defBody s_law, defScope s_law, [], []⟩
def dD_Ahead_init : He.DefD := ⟨("Ahead", some "__init__"), "__init__", "Ahead.__init__", defArgs s_Ahead_init, defBody s_Ahead_init, defScope s_Ahead_init, [], []⟩
def dD_With_init : He.DefD := ⟨("With", some "__init__"), "__init__", "With.__init__", defArgs s_With_init, defBody s_With_init, defScope s_With_init, [], []⟩
def dD_Spare_init : He.DefD := ⟨("Spare", some "__init__"), "__init__", "Spare.__init__", defArgs s_Spare_init, defBody s_Spare_init, defScope s_Spare_init, [], []⟩
def dD_Without_init : He.DefD := ⟨("Without", some "__init__"), "__init__", "Without.__init__", defArgs s_Without_init, defBody s_Without_init, defScope s_Without_init, [], []⟩
def dD_Exchange_init : He.DefD := ⟨("Exchange", some "__init__"), "__init__", "Exchange.__init__", defArgs s_Exchange_init, defBody s_Exchange_init, defScope s_Exchange_init, [], []⟩
def dDs_0 : List He.DefD := [dD_is_name, dD_checked, dD__law_nth, dD__law_called, dD__law_no_name, dD__law_cover, dD__law_cover_of, dD__law_sorts, dD__law_bad_made, dD__law_refused, dD_law, dD_Ahead_init, dD_With_init, dD_Spare_init, dD_Without_init, dD_Exchange_init]
def dDs : List He.DefD := dDs_0
abbrev f_is_name (K : PySem.W.Frag) : Addr := He.fAd K ("is_name", none)
abbrev f_checked (K : PySem.W.Frag) : Addr := He.fAd K ("checked", none)
abbrev f__law_nth (K : PySem.W.Frag) : Addr := He.fAd K ("_law_nth", none)
abbrev f__law_called (K : PySem.W.Frag) : Addr := He.fAd K ("_law_called", none)
abbrev f__law_no_name (K : PySem.W.Frag) : Addr := He.fAd K ("_law_no_name", none)
abbrev f__law_cover (K : PySem.W.Frag) : Addr := He.fAd K ("_law_cover", none)
abbrev f__law_cover_of (K : PySem.W.Frag) : Addr := He.fAd K ("_law_cover_of", none)
abbrev f__law_sorts (K : PySem.W.Frag) : Addr := He.fAd K ("_law_sorts", none)
abbrev f__law_bad_made (K : PySem.W.Frag) : Addr := He.fAd K ("_law_bad_made", none)
abbrev f__law_refused (K : PySem.W.Frag) : Addr := He.fAd K ("_law_refused", none)
abbrev f_law (K : PySem.W.Frag) : Addr := He.fAd K ("law", none)
abbrev f_Ahead_init (K : PySem.W.Frag) : Addr := He.fAd K ("Ahead", some "__init__")
abbrev f_With_init (K : PySem.W.Frag) : Addr := He.fAd K ("With", some "__init__")
abbrev f_Spare_init (K : PySem.W.Frag) : Addr := He.fAd K ("Spare", some "__init__")
abbrev f_Without_init (K : PySem.W.Frag) : Addr := He.fAd K ("Without", some "__init__")
abbrev f_Exchange_init (K : PySem.W.Frag) : Addr := He.fAd K ("Exchange", some "__init__")
abbrev c_CallError (K : PySem.W.Frag) : Addr := He.ga K "CallError"
abbrev c_NoName (K : PySem.W.Frag) : Addr := He.ga K "NoName"
abbrev c_TooMany (K : PySem.W.Frag) : Addr := He.ga K "TooMany"
abbrev c_BadOrder (K : PySem.W.Frag) : Addr := He.ga K "BadOrder"
abbrev c_Twice (K : PySem.W.Frag) : Addr := He.ga K "Twice"
abbrev c_NoChange (K : PySem.W.Frag) : Addr := He.ga K "NoChange"
abbrev c_NoDefault (K : PySem.W.Frag) : Addr := He.ga K "NoDefault"
abbrev c_NoText (K : PySem.W.Frag) : Addr := He.ga K "NoText"
abbrev c_NoRow (K : PySem.W.Frag) : Addr := He.ga K "NoRow"
abbrev c_Unknown (K : PySem.W.Frag) : Addr := He.ga K "Unknown"
abbrev c_Misfit (K : PySem.W.Frag) : Addr := He.ga K "Misfit"
abbrev c_Cover (K : PySem.W.Frag) : Addr := He.ga K "Cover"
abbrev c_Ahead (K : PySem.W.Frag) : Addr := He.ga K "Ahead"
abbrev c_With (K : PySem.W.Frag) : Addr := He.ga K "With"
abbrev c_Spare (K : PySem.W.Frag) : Addr := He.ga K "Spare"
abbrev c_Without (K : PySem.W.Frag) : Addr := He.ga K "Without"
abbrev c_Exchange (K : PySem.W.Frag) : Addr := He.ga K "Exchange"
abbrev c_Swallow (K : PySem.W.Frag) : Addr := He.ga K "Swallow"
abbrev c_ByPlace (K : PySem.W.Frag) : Addr := He.ga K "ByPlace"
abbrev c_ByName (K : PySem.W.Frag) : Addr := He.ga K "ByName"
def q_0 (K : PySem.W.Frag) : Bool := decide (PySem.W.nsIn K mainGlobals "is_name" = some (some (.ref (f_is_name K))))
def q_1 (K : PySem.W.Frag) : Bool := decide (PySem.W.nsIn K mainGlobals "checked" = some (some (.ref (f_checked K))))
def q_2 (K : PySem.W.Frag) : Bool := decide (PySem.W.nsIn K mainGlobals "_law_nth" = some (some (.ref (f__law_nth K))))
def q_3 (K : PySem.W.Frag) : Bool := decide (PySem.W.nsIn K mainGlobals "_law_called" = some (some (.ref (f__law_called K))))
def q_4 (K : PySem.W.Frag) : Bool := decide (PySem.W.nsIn K mainGlobals "_law_no_name" = some (some (.ref (f__law_no_name K))))
def q_5 (K : PySem.W.Frag) : Bool := decide (PySem.W.nsIn K mainGlobals "_law_cover" = some (some (.ref (f__law_cover K))))
def q_6 (K : PySem.W.Frag) : Bool := decide (PySem.W.nsIn K mainGlobals "_law_cover_of" = some (some (.ref (f__law_cover_of K))))
def q_7 (K : PySem.W.Frag) : Bool := decide (PySem.W.nsIn K mainGlobals "_law_sorts" = some (some (.ref (f__law_sorts K))))
def q_8 (K : PySem.W.Frag) : Bool := decide (PySem.W.nsIn K mainGlobals "_law_bad_made" = some (some (.ref (f__law_bad_made K))))
def q_9 (K : PySem.W.Frag) : Bool := decide (PySem.W.nsIn K mainGlobals "_law_refused" = some (some (.ref (f__law_refused K))))
def q_10 (K : PySem.W.Frag) : Bool := decide (PySem.W.nsIn K mainGlobals "law" = some (some (.ref (f_law K))))
def q_11 (K : PySem.W.Frag) : Bool := decide (PySem.W.nsIn K mainGlobals "ValueError" = some none)
def q_12 (K : PySem.W.Frag) : Bool := decide (PySem.W.nsIn K mainGlobals "all" = some none)
def q_13 (K : PySem.W.Frag) : Bool := decide (PySem.W.nsIn K mainGlobals "int" = some none)
def q_14 (K : PySem.W.Frag) : Bool := decide (PySem.W.nsIn K mainGlobals "isinstance" = some none)
def q_15 (K : PySem.W.Frag) : Bool := decide (PySem.W.nsIn K mainGlobals "len" = some none)
def q_16 (K : PySem.W.Frag) : Bool := decide (PySem.W.nsIn K mainGlobals "range" = some none)
def q_17 (K : PySem.W.Frag) : Bool := decide (PySem.W.nsIn K mainGlobals "str" = some none)
def q_18 (K : PySem.W.Frag) : Bool := (He.Fa.int "LONGEST" 8).ok K
def q_19 (K : PySem.W.Frag) : Bool := (He.Fa.str "LETTERS" "abcdefghijklmnopqrstuvwxyz").ok K
def q_20 (K : PySem.W.Frag) : Bool := decide (PySem.W.nsIn K mainGlobals "Cover" = some (some (.ref (c_Cover K))))
def q_21 (K : PySem.W.Frag) : Bool := PySem.W.plainGet K (c_Ahead K) Str.empty
def q_22 (K : PySem.W.Frag) : Bool := PySem.W.hasDictIn K (c_Ahead K)
def q_23 (K : PySem.W.Frag) : Bool := PySem.W.plainOver K (c_Ahead K)
def q_24 (K : PySem.W.Frag) : Bool := decide (PySem.W.findIn K (.ref (c_Ahead K)) "__setattr__" = some (some (.builtin "object.__setattr__")))
def q_25 (K : PySem.W.Frag) : Bool := decide (PySem.W.findIn K (.ref (c_Ahead K)) "__class__" = some (some (.builtin "object.__class__")))
def q_26 (K : PySem.W.Frag) : Bool := decide (PySem.W.mroIn K (c_Ahead K) (.type "object") = some true)
def q_27 (K : PySem.W.Frag) : Bool := decide (PySem.W.kitOne K (.ref (c_Ahead K)) (.ref (c_Cover K)) = some true)
def q_28 (K : PySem.W.Frag) : Bool := PySem.W.plainGet K (c_With K) Str.empty
def q_29 (K : PySem.W.Frag) : Bool := PySem.W.hasDictIn K (c_With K)
def q_30 (K : PySem.W.Frag) : Bool := PySem.W.plainOver K (c_With K)
def q_31 (K : PySem.W.Frag) : Bool := decide (PySem.W.findIn K (.ref (c_With K)) "__setattr__" = some (some (.builtin "object.__setattr__")))
def q_32 (K : PySem.W.Frag) : Bool := decide (PySem.W.findIn K (.ref (c_With K)) "__class__" = some (some (.builtin "object.__class__")))
def q_33 (K : PySem.W.Frag) : Bool := decide (PySem.W.mroIn K (c_With K) (.type "object") = some true)
def q_34 (K : PySem.W.Frag) : Bool := decide (PySem.W.kitOne K (.ref (c_With K)) (.ref (c_Cover K)) = some true)
def q_35 (K : PySem.W.Frag) : Bool := PySem.W.plainGet K (c_Spare K) Str.empty
def q_36 (K : PySem.W.Frag) : Bool := PySem.W.hasDictIn K (c_Spare K)
def q_37 (K : PySem.W.Frag) : Bool := PySem.W.plainOver K (c_Spare K)
def q_38 (K : PySem.W.Frag) : Bool := decide (PySem.W.findIn K (.ref (c_Spare K)) "__setattr__" = some (some (.builtin "object.__setattr__")))
def q_39 (K : PySem.W.Frag) : Bool := decide (PySem.W.findIn K (.ref (c_Spare K)) "__class__" = some (some (.builtin "object.__class__")))
def q_40 (K : PySem.W.Frag) : Bool := decide (PySem.W.mroIn K (c_Spare K) (.type "object") = some true)
def q_41 (K : PySem.W.Frag) : Bool := decide (PySem.W.kitOne K (.ref (c_Spare K)) (.ref (c_Cover K)) = some true)
def q_42 (K : PySem.W.Frag) : Bool := PySem.W.plainGet K (c_Without K) Str.empty
def q_43 (K : PySem.W.Frag) : Bool := PySem.W.hasDictIn K (c_Without K)
def q_44 (K : PySem.W.Frag) : Bool := PySem.W.plainOver K (c_Without K)
def q_45 (K : PySem.W.Frag) : Bool := decide (PySem.W.findIn K (.ref (c_Without K)) "__setattr__" = some (some (.builtin "object.__setattr__")))
def q_46 (K : PySem.W.Frag) : Bool := decide (PySem.W.findIn K (.ref (c_Without K)) "__class__" = some (some (.builtin "object.__class__")))
def q_47 (K : PySem.W.Frag) : Bool := decide (PySem.W.mroIn K (c_Without K) (.type "object") = some true)
def q_48 (K : PySem.W.Frag) : Bool := decide (PySem.W.kitOne K (.ref (c_Without K)) (.ref (c_Cover K)) = some true)
def q_49 (K : PySem.W.Frag) : Bool := PySem.W.plainGet K (c_Exchange K) Str.empty
def q_50 (K : PySem.W.Frag) : Bool := PySem.W.hasDictIn K (c_Exchange K)
def q_51 (K : PySem.W.Frag) : Bool := PySem.W.plainOver K (c_Exchange K)
def q_52 (K : PySem.W.Frag) : Bool := decide (PySem.W.findIn K (.ref (c_Exchange K)) "__setattr__" = some (some (.builtin "object.__setattr__")))
def q_53 (K : PySem.W.Frag) : Bool := decide (PySem.W.findIn K (.ref (c_Exchange K)) "__class__" = some (some (.builtin "object.__class__")))
def q_54 (K : PySem.W.Frag) : Bool := decide (PySem.W.mroIn K (c_Exchange K) (.type "object") = some true)
def q_55 (K : PySem.W.Frag) : Bool := decide (PySem.W.kitOne K (.ref (c_Exchange K)) (.ref (c_Cover K)) = some true)
def q_56 (K : PySem.W.Frag) : Bool := PySem.W.plainGet K (c_Swallow K) Str.empty
def q_57 (K : PySem.W.Frag) : Bool := PySem.W.hasDictIn K (c_Swallow K)
def q_58 (K : PySem.W.Frag) : Bool := PySem.W.plainOver K (c_Swallow K)
def q_59 (K : PySem.W.Frag) : Bool := decide (PySem.W.findIn K (.ref (c_Swallow K)) "__setattr__" = some (some (.builtin "object.__setattr__")))
def q_60 (K : PySem.W.Frag) : Bool := decide (PySem.W.findIn K (.ref (c_Swallow K)) "__class__" = some (some (.builtin "object.__class__")))
def q_61 (K : PySem.W.Frag) : Bool := decide (PySem.W.mroIn K (c_Swallow K) (.type "object") = some true)
def q_62 (K : PySem.W.Frag) : Bool := decide (PySem.W.kitOne K (.ref (c_Swallow K)) (.ref (c_Cover K)) = some true)
def q_63 (K : PySem.W.Frag) : Bool := PySem.W.plainGet K (c_ByPlace K) Str.empty
def q_64 (K : PySem.W.Frag) : Bool := PySem.W.hasDictIn K (c_ByPlace K)
def q_65 (K : PySem.W.Frag) : Bool := PySem.W.plainOver K (c_ByPlace K)
def q_66 (K : PySem.W.Frag) : Bool := decide (PySem.W.findIn K (.ref (c_ByPlace K)) "__setattr__" = some (some (.builtin "object.__setattr__")))
def q_67 (K : PySem.W.Frag) : Bool := decide (PySem.W.findIn K (.ref (c_ByPlace K)) "__class__" = some (some (.builtin "object.__class__")))
def q_68 (K : PySem.W.Frag) : Bool := decide (PySem.W.mroIn K (c_ByPlace K) (.type "object") = some true)
def q_69 (K : PySem.W.Frag) : Bool := decide (PySem.W.kitOne K (.ref (c_ByPlace K)) (.ref (c_Cover K)) = some true)
def q_70 (K : PySem.W.Frag) : Bool := PySem.W.plainGet K (c_ByName K) Str.empty
def q_71 (K : PySem.W.Frag) : Bool := PySem.W.hasDictIn K (c_ByName K)
def q_72 (K : PySem.W.Frag) : Bool := PySem.W.plainOver K (c_ByName K)
def q_73 (K : PySem.W.Frag) : Bool := decide (PySem.W.findIn K (.ref (c_ByName K)) "__setattr__" = some (some (.builtin "object.__setattr__")))
def q_74 (K : PySem.W.Frag) : Bool := decide (PySem.W.findIn K (.ref (c_ByName K)) "__class__" = some (some (.builtin "object.__class__")))
def q_75 (K : PySem.W.Frag) : Bool := decide (PySem.W.mroIn K (c_ByName K) (.type "object") = some true)
def q_76 (K : PySem.W.Frag) : Bool := decide (PySem.W.kitOne K (.ref (c_ByName K)) (.ref (c_Cover K)) = some true)
def q_77 (K : PySem.W.Frag) : Bool := decide (PySem.W.specialIn K (.builtin "object.__class__") "__get__" = some (some (.builtin "getset_descriptor.__get__")))
def q_78 (K : PySem.W.Frag) : Bool := decide (PySem.W.takesIn K (.builtin "object.__class__") = some true)
def q_79 (K : PySem.W.Frag) : Bool := decide (PySem.W.nsIn K mainGlobals "Ahead" = some (some (.ref (c_Ahead K))))
def q_80 (K : PySem.W.Frag) : Bool := decide (PySem.W.kitOne K (.ref (c_Ahead K)) (.ref (c_Ahead K)) = some true)
def q_81 (K : PySem.W.Frag) : Bool := decide (PySem.W.kitOne K (.ref (c_With K)) (.ref (c_Ahead K)) = some false)
def q_82 (K : PySem.W.Frag) : Bool := decide (PySem.W.kitOne K (.ref (c_Spare K)) (.ref (c_Ahead K)) = some false)
def q_83 (K : PySem.W.Frag) : Bool := decide (PySem.W.kitOne K (.ref (c_Without K)) (.ref (c_Ahead K)) = some false)
def q_84 (K : PySem.W.Frag) : Bool := decide (PySem.W.kitOne K (.ref (c_Exchange K)) (.ref (c_Ahead K)) = some false)
def q_85 (K : PySem.W.Frag) : Bool := decide (PySem.W.kitOne K (.ref (c_Swallow K)) (.ref (c_Ahead K)) = some false)
def q_86 (K : PySem.W.Frag) : Bool := decide (PySem.W.kitOne K (.ref (c_ByPlace K)) (.ref (c_Ahead K)) = some false)
def q_87 (K : PySem.W.Frag) : Bool := decide (PySem.W.kitOne K (.ref (c_ByName K)) (.ref (c_Ahead K)) = some false)
def q_88 (K : PySem.W.Frag) : Bool := decide (PySem.W.nsIn K mainGlobals "With" = some (some (.ref (c_With K))))
def q_89 (K : PySem.W.Frag) : Bool := decide (PySem.W.kitOne K (.ref (c_Ahead K)) (.ref (c_With K)) = some false)
def q_90 (K : PySem.W.Frag) : Bool := decide (PySem.W.kitOne K (.ref (c_With K)) (.ref (c_With K)) = some true)
def q_91 (K : PySem.W.Frag) : Bool := decide (PySem.W.kitOne K (.ref (c_Spare K)) (.ref (c_With K)) = some false)
def q_92 (K : PySem.W.Frag) : Bool := decide (PySem.W.kitOne K (.ref (c_Without K)) (.ref (c_With K)) = some false)
def q_93 (K : PySem.W.Frag) : Bool := decide (PySem.W.kitOne K (.ref (c_Exchange K)) (.ref (c_With K)) = some false)
def q_94 (K : PySem.W.Frag) : Bool := decide (PySem.W.kitOne K (.ref (c_Swallow K)) (.ref (c_With K)) = some false)
def q_95 (K : PySem.W.Frag) : Bool := decide (PySem.W.kitOne K (.ref (c_ByPlace K)) (.ref (c_With K)) = some false)
def q_96 (K : PySem.W.Frag) : Bool := decide (PySem.W.kitOne K (.ref (c_ByName K)) (.ref (c_With K)) = some false)
def q_97 (K : PySem.W.Frag) : Bool := decide (PySem.W.nsIn K mainGlobals "Spare" = some (some (.ref (c_Spare K))))
def q_98 (K : PySem.W.Frag) : Bool := decide (PySem.W.kitOne K (.ref (c_Ahead K)) (.ref (c_Spare K)) = some false)
def q_99 (K : PySem.W.Frag) : Bool := decide (PySem.W.kitOne K (.ref (c_With K)) (.ref (c_Spare K)) = some false)
def q_100 (K : PySem.W.Frag) : Bool := decide (PySem.W.kitOne K (.ref (c_Spare K)) (.ref (c_Spare K)) = some true)
def q_101 (K : PySem.W.Frag) : Bool := decide (PySem.W.kitOne K (.ref (c_Without K)) (.ref (c_Spare K)) = some false)
def q_102 (K : PySem.W.Frag) : Bool := decide (PySem.W.kitOne K (.ref (c_Exchange K)) (.ref (c_Spare K)) = some false)
def q_103 (K : PySem.W.Frag) : Bool := decide (PySem.W.kitOne K (.ref (c_Swallow K)) (.ref (c_Spare K)) = some false)
def q_104 (K : PySem.W.Frag) : Bool := decide (PySem.W.kitOne K (.ref (c_ByPlace K)) (.ref (c_Spare K)) = some false)
def q_105 (K : PySem.W.Frag) : Bool := decide (PySem.W.kitOne K (.ref (c_ByName K)) (.ref (c_Spare K)) = some false)
def q_106 (K : PySem.W.Frag) : Bool := decide (PySem.W.nsIn K mainGlobals "Without" = some (some (.ref (c_Without K))))
def q_107 (K : PySem.W.Frag) : Bool := decide (PySem.W.kitOne K (.ref (c_Ahead K)) (.ref (c_Without K)) = some false)
def q_108 (K : PySem.W.Frag) : Bool := decide (PySem.W.kitOne K (.ref (c_With K)) (.ref (c_Without K)) = some false)
def q_109 (K : PySem.W.Frag) : Bool := decide (PySem.W.kitOne K (.ref (c_Spare K)) (.ref (c_Without K)) = some false)
def q_110 (K : PySem.W.Frag) : Bool := decide (PySem.W.kitOne K (.ref (c_Without K)) (.ref (c_Without K)) = some true)
def q_111 (K : PySem.W.Frag) : Bool := decide (PySem.W.kitOne K (.ref (c_Exchange K)) (.ref (c_Without K)) = some false)
def q_112 (K : PySem.W.Frag) : Bool := decide (PySem.W.kitOne K (.ref (c_Swallow K)) (.ref (c_Without K)) = some false)
def q_113 (K : PySem.W.Frag) : Bool := decide (PySem.W.kitOne K (.ref (c_ByPlace K)) (.ref (c_Without K)) = some false)
def q_114 (K : PySem.W.Frag) : Bool := decide (PySem.W.kitOne K (.ref (c_ByName K)) (.ref (c_Without K)) = some false)
def q_115 (K : PySem.W.Frag) : Bool := decide (PySem.W.nsIn K mainGlobals "Exchange" = some (some (.ref (c_Exchange K))))
def q_116 (K : PySem.W.Frag) : Bool := decide (PySem.W.kitOne K (.ref (c_Ahead K)) (.ref (c_Exchange K)) = some false)
def q_117 (K : PySem.W.Frag) : Bool := decide (PySem.W.kitOne K (.ref (c_With K)) (.ref (c_Exchange K)) = some false)
def q_118 (K : PySem.W.Frag) : Bool := decide (PySem.W.kitOne K (.ref (c_Spare K)) (.ref (c_Exchange K)) = some false)
def q_119 (K : PySem.W.Frag) : Bool := decide (PySem.W.kitOne K (.ref (c_Without K)) (.ref (c_Exchange K)) = some false)
def q_120 (K : PySem.W.Frag) : Bool := decide (PySem.W.kitOne K (.ref (c_Exchange K)) (.ref (c_Exchange K)) = some true)
def q_121 (K : PySem.W.Frag) : Bool := decide (PySem.W.kitOne K (.ref (c_Swallow K)) (.ref (c_Exchange K)) = some false)
def q_122 (K : PySem.W.Frag) : Bool := decide (PySem.W.kitOne K (.ref (c_ByPlace K)) (.ref (c_Exchange K)) = some false)
def q_123 (K : PySem.W.Frag) : Bool := decide (PySem.W.kitOne K (.ref (c_ByName K)) (.ref (c_Exchange K)) = some false)
def q_124 (K : PySem.W.Frag) : Bool := decide (PySem.W.nsIn K mainGlobals "Swallow" = some (some (.ref (c_Swallow K))))
def q_125 (K : PySem.W.Frag) : Bool := decide (PySem.W.kitOne K (.ref (c_Ahead K)) (.ref (c_Swallow K)) = some false)
def q_126 (K : PySem.W.Frag) : Bool := decide (PySem.W.kitOne K (.ref (c_With K)) (.ref (c_Swallow K)) = some false)
def q_127 (K : PySem.W.Frag) : Bool := decide (PySem.W.kitOne K (.ref (c_Spare K)) (.ref (c_Swallow K)) = some false)
def q_128 (K : PySem.W.Frag) : Bool := decide (PySem.W.kitOne K (.ref (c_Without K)) (.ref (c_Swallow K)) = some false)
def q_129 (K : PySem.W.Frag) : Bool := decide (PySem.W.kitOne K (.ref (c_Exchange K)) (.ref (c_Swallow K)) = some false)
def q_130 (K : PySem.W.Frag) : Bool := decide (PySem.W.kitOne K (.ref (c_Swallow K)) (.ref (c_Swallow K)) = some true)
def q_131 (K : PySem.W.Frag) : Bool := decide (PySem.W.kitOne K (.ref (c_ByPlace K)) (.ref (c_Swallow K)) = some false)
def q_132 (K : PySem.W.Frag) : Bool := decide (PySem.W.kitOne K (.ref (c_ByName K)) (.ref (c_Swallow K)) = some false)
def q_133 (K : PySem.W.Frag) : Bool := decide (PySem.W.nsIn K mainGlobals "ByPlace" = some (some (.ref (c_ByPlace K))))
def q_134 (K : PySem.W.Frag) : Bool := decide (PySem.W.kitOne K (.ref (c_Ahead K)) (.ref (c_ByPlace K)) = some false)
def q_135 (K : PySem.W.Frag) : Bool := decide (PySem.W.kitOne K (.ref (c_With K)) (.ref (c_ByPlace K)) = some false)
def q_136 (K : PySem.W.Frag) : Bool := decide (PySem.W.kitOne K (.ref (c_Spare K)) (.ref (c_ByPlace K)) = some false)
def q_137 (K : PySem.W.Frag) : Bool := decide (PySem.W.kitOne K (.ref (c_Without K)) (.ref (c_ByPlace K)) = some false)
def q_138 (K : PySem.W.Frag) : Bool := decide (PySem.W.kitOne K (.ref (c_Exchange K)) (.ref (c_ByPlace K)) = some false)
def q_139 (K : PySem.W.Frag) : Bool := decide (PySem.W.kitOne K (.ref (c_Swallow K)) (.ref (c_ByPlace K)) = some false)
def q_140 (K : PySem.W.Frag) : Bool := decide (PySem.W.kitOne K (.ref (c_ByPlace K)) (.ref (c_ByPlace K)) = some true)
def q_141 (K : PySem.W.Frag) : Bool := decide (PySem.W.kitOne K (.ref (c_ByName K)) (.ref (c_ByPlace K)) = some false)
def q_142 (K : PySem.W.Frag) : Bool := decide (PySem.W.nsIn K mainGlobals "ByName" = some (some (.ref (c_ByName K))))
def q_143 (K : PySem.W.Frag) : Bool := decide (PySem.W.kitOne K (.ref (c_Ahead K)) (.ref (c_ByName K)) = some false)
def q_144 (K : PySem.W.Frag) : Bool := decide (PySem.W.kitOne K (.ref (c_With K)) (.ref (c_ByName K)) = some false)
def q_145 (K : PySem.W.Frag) : Bool := decide (PySem.W.kitOne K (.ref (c_Spare K)) (.ref (c_ByName K)) = some false)
def q_146 (K : PySem.W.Frag) : Bool := decide (PySem.W.kitOne K (.ref (c_Without K)) (.ref (c_ByName K)) = some false)
def q_147 (K : PySem.W.Frag) : Bool := decide (PySem.W.kitOne K (.ref (c_Exchange K)) (.ref (c_ByName K)) = some false)
def q_148 (K : PySem.W.Frag) : Bool := decide (PySem.W.kitOne K (.ref (c_Swallow K)) (.ref (c_ByName K)) = some false)
def q_149 (K : PySem.W.Frag) : Bool := decide (PySem.W.kitOne K (.ref (c_ByPlace K)) (.ref (c_ByName K)) = some false)
def q_150 (K : PySem.W.Frag) : Bool := decide (PySem.W.kitOne K (.ref (c_ByName K)) (.ref (c_ByName K)) = some true)
def q_151 (K : PySem.W.Frag) : Bool := decide (PySem.W.nsIn K mainGlobals "CallError" = some (some (.ref (c_CallError K))))
def q_152 (K : PySem.W.Frag) : Bool := PySem.W.isClsIn K (c_NoName K)
def q_153 (K : PySem.W.Frag) : Bool := decide (PySem.W.findIn K (.ref (c_NoName K)) "__getattribute__" = some (some (.builtin "BaseException.__getattribute__")))
def q_154 (K : PySem.W.Frag) : Bool := decide (PySem.W.findIn K (.ref (c_NoName K)) "__getattr__" = some none)
def q_155 (K : PySem.W.Frag) : Bool := decide (PySem.W.subIn K (.ref (c_NoName K)) (.type "BaseException") = some true)
def q_156 (K : PySem.W.Frag) : Bool := PySem.W.hasDictIn K (c_NoName K)
def q_157 (K : PySem.W.Frag) : Bool := decide (PySem.W.findIn K (.ref (c_NoName K)) "__class__" = some (some (.builtin "object.__class__")))
def q_158 (K : PySem.W.Frag) : Bool := decide (PySem.W.mroIn K (c_NoName K) (.type "object") = some true)
def q_159 (K : PySem.W.Frag) : Bool := decide (PySem.W.kitOne K (.ref (c_NoName K)) (.ref (c_CallError K)) = some true)
def q_160 (K : PySem.W.Frag) : Bool := decide (PySem.W.kitOne K (.ref (c_NoName K)) (.type "ValueError") = some true)
def q_161 (K : PySem.W.Frag) : Bool := decide (PySem.W.nsIn K mainGlobals "BadOrder" = some (some (.ref (c_BadOrder K))))
def q_162 (K : PySem.W.Frag) : Bool := decide (PySem.W.nsIn K mainGlobals "Misfit" = some (some (.ref (c_Misfit K))))
def q_163 (K : PySem.W.Frag) : Bool := decide (PySem.W.nsIn K mainGlobals "NoChange" = some (some (.ref (c_NoChange K))))
def q_164 (K : PySem.W.Frag) : Bool := decide (PySem.W.nsIn K mainGlobals "NoDefault" = some (some (.ref (c_NoDefault K))))
def q_165 (K : PySem.W.Frag) : Bool := decide (PySem.W.nsIn K mainGlobals "NoRow" = some (some (.ref (c_NoRow K))))
def q_166 (K : PySem.W.Frag) : Bool := decide (PySem.W.nsIn K mainGlobals "NoText" = some (some (.ref (c_NoText K))))
def q_167 (K : PySem.W.Frag) : Bool := decide (PySem.W.nsIn K mainGlobals "TooMany" = some (some (.ref (c_TooMany K))))
def q_168 (K : PySem.W.Frag) : Bool := decide (PySem.W.nsIn K mainGlobals "Twice" = some (some (.ref (c_Twice K))))
def q_169 (K : PySem.W.Frag) : Bool := decide (PySem.W.nsIn K mainGlobals "Unknown" = some (some (.ref (c_Unknown K))))
def q_170 (K : PySem.W.Frag) : Bool := decide (PySem.W.kitOne K (.ref (c_NoName K)) (.ref (c_Unknown K)) = some false)
def q_171 (K : PySem.W.Frag) : Bool := decide (PySem.W.kitOne K (.ref (c_NoName K)) (.ref (c_Twice K)) = some false)
def q_172 (K : PySem.W.Frag) : Bool := decide (PySem.W.kitOne K (.ref (c_NoName K)) (.ref (c_TooMany K)) = some false)
def q_173 (K : PySem.W.Frag) : Bool := decide (PySem.W.kitOne K (.ref (c_NoName K)) (.ref (c_NoText K)) = some false)
def q_174 (K : PySem.W.Frag) : Bool := decide (PySem.W.kitOne K (.ref (c_NoName K)) (.ref (c_NoRow K)) = some false)
def q_175 (K : PySem.W.Frag) : Bool := decide (PySem.W.kitOne K (.ref (c_NoName K)) (.ref (c_NoDefault K)) = some false)
def q_176 (K : PySem.W.Frag) : Bool := decide (PySem.W.kitOne K (.ref (c_NoName K)) (.ref (c_NoChange K)) = some false)
def q_177 (K : PySem.W.Frag) : Bool := decide (PySem.W.kitOne K (.ref (c_NoName K)) (.ref (c_Misfit K)) = some false)
def q_178 (K : PySem.W.Frag) : Bool := decide (PySem.W.kitOne K (.ref (c_NoName K)) (.ref (c_BadOrder K)) = some false)
def q_179 (K : PySem.W.Frag) : Bool := decide (PySem.W.typeIn K (.ref (c_NoName K)) = some (.type "type"))
def q_180 (K : PySem.W.Frag) : Bool := decide (PySem.W.subIn K (.ref (c_NoName K)) (.ref (c_NoName K)) = some true)
def q_181 (K : PySem.W.Frag) : Bool := decide (PySem.W.nsIn K mainGlobals "NoName" = some (some (.ref (c_NoName K))))
def q_182 (K : PySem.W.Frag) : Bool := PySem.W.makesIn K (c_With K)
def q_183 (K : PySem.W.Frag) : Bool := decide (PySem.W.findIn K (.ref (c_With K)) "__init__" = some (some (.ref (f_With_init K))))
def q_184 (K : PySem.W.Frag) : Bool := PySem.W.isFn K (.ref (f_With_init K))
def q_185 (K : PySem.W.Frag) : Bool := PySem.W.keepIn K (.ref (c_With K))
def q_186 (K : PySem.W.Frag) : Bool := PySem.W.makesIn K (c_Spare K)
def q_187 (K : PySem.W.Frag) : Bool := decide (PySem.W.findIn K (.ref (c_Spare K)) "__init__" = some (some (.ref (f_Spare_init K))))
def q_188 (K : PySem.W.Frag) : Bool := PySem.W.isFn K (.ref (f_Spare_init K))
def q_189 (K : PySem.W.Frag) : Bool := PySem.W.keepIn K (.ref (c_Spare K))
def q_190 (K : PySem.W.Frag) : Bool := PySem.W.makesIn K (c_Without K)
def q_191 (K : PySem.W.Frag) : Bool := decide (PySem.W.findIn K (.ref (c_Without K)) "__init__" = some (some (.ref (f_Without_init K))))
def q_192 (K : PySem.W.Frag) : Bool := PySem.W.isFn K (.ref (f_Without_init K))
def q_193 (K : PySem.W.Frag) : Bool := PySem.W.keepIn K (.ref (c_Without K))
def q_194 (K : PySem.W.Frag) : Bool := PySem.W.makesIn K (c_Exchange K)
def q_195 (K : PySem.W.Frag) : Bool := decide (PySem.W.findIn K (.ref (c_Exchange K)) "__init__" = some (some (.ref (f_Exchange_init K))))
def q_196 (K : PySem.W.Frag) : Bool := PySem.W.isFn K (.ref (f_Exchange_init K))
def q_197 (K : PySem.W.Frag) : Bool := PySem.W.keepIn K (.ref (c_Exchange K))
def q_198 (K : PySem.W.Frag) : Bool := decide (PySem.W.findIn K (.ref (c_Without K)) "name" = some none)
def q_199 (K : PySem.W.Frag) : Bool := PySem.W.excIn K (c_NoName K) [.type "ValueError", .type "Exception", .type "BaseException", .type "object"] "ValueError.__new__"
def q_200 (K : PySem.W.Frag) : Bool := PySem.W.keepIn K (.ref (c_NoName K))
def q_201 (K : PySem.W.Frag) : Bool := decide (PySem.W.findIn K (.ref (c_With K)) "name" = some none)
def q_202 (K : PySem.W.Frag) : Bool := decide (PySem.W.findIn K (.ref (c_With K)) "thing" = some none)
def q_203 (K : PySem.W.Frag) : Bool := decide (PySem.W.findIn K (.ref (c_Spare K)) "name" = some none)
def q_204 (K : PySem.W.Frag) : Bool := decide (PySem.W.findIn K (.ref (c_Spare K)) "thing" = some none)
def q_205 (K : PySem.W.Frag) : Bool := decide (PySem.W.findIn K (.ref (c_Exchange K)) "one" = some none)
def q_206 (K : PySem.W.Frag) : Bool := decide (PySem.W.findIn K (.ref (c_Exchange K)) "other" = some none)
def q_207 (K : PySem.W.Frag) : Bool := PySem.W.makesIn K (c_Ahead K)
def q_208 (K : PySem.W.Frag) : Bool := decide (PySem.W.findIn K (.ref (c_Ahead K)) "__init__" = some (some (.ref (f_Ahead_init K))))
def q_209 (K : PySem.W.Frag) : Bool := PySem.W.isFn K (.ref (f_Ahead_init K))
def q_210 (K : PySem.W.Frag) : Bool := PySem.W.keepIn K (.ref (c_Ahead K))
def q_211 (K : PySem.W.Frag) : Bool := PySem.W.makesIn K (c_Swallow K)
def q_212 (K : PySem.W.Frag) : Bool := decide (PySem.W.findIn K (.ref (c_Swallow K)) "__init__" = some (some (.builtin "object.__init__")))
def q_213 (K : PySem.W.Frag) : Bool := PySem.W.keepIn K (.ref (c_Swallow K))
def q_214 (K : PySem.W.Frag) : Bool := PySem.W.makesIn K (c_ByPlace K)
def q_215 (K : PySem.W.Frag) : Bool := decide (PySem.W.findIn K (.ref (c_ByPlace K)) "__init__" = some (some (.builtin "object.__init__")))
def q_216 (K : PySem.W.Frag) : Bool := PySem.W.keepIn K (.ref (c_ByPlace K))
def q_217 (K : PySem.W.Frag) : Bool := PySem.W.makesIn K (c_ByName K)
def q_218 (K : PySem.W.Frag) : Bool := decide (PySem.W.findIn K (.ref (c_ByName K)) "__init__" = some (some (.builtin "object.__init__")))
def q_219 (K : PySem.W.Frag) : Bool := PySem.W.keepIn K (.ref (c_ByName K))
def q_220 (K : PySem.W.Frag) : Bool := decide (PySem.W.findIn K (.ref (c_Ahead K)) "thing" = some none)
def qs_0 : List (PySem.W.Frag → Bool) := [q_0, q_1, q_2, q_3, q_4, q_5, q_6, q_7, q_8, q_9, q_10, q_11, q_12, q_13, q_14, q_15, q_16, q_17, q_18, q_19, q_20, q_21, q_22, q_23, q_24, q_25, q_26, q_27, q_28, q_29]
def qs_1 : List (PySem.W.Frag → Bool) := [q_30, q_31, q_32, q_33, q_34, q_35, q_36, q_37, q_38, q_39, q_40, q_41, q_42, q_43, q_44, q_45, q_46, q_47, q_48, q_49, q_50, q_51, q_52, q_53, q_54, q_55, q_56, q_57, q_58, q_59]
def qs_2 : List (PySem.W.Frag → Bool) := [q_60, q_61, q_62, q_63, q_64, q_65, q_66, q_67, q_68, q_69, q_70, q_71, q_72, q_73, q_74, q_75, q_76, q_77, q_78, q_79, q_80, q_81, q_82, q_83, q_84, q_85, q_86, q_87, q_88, q_89]
def qs_3 : List (PySem.W.Frag → Bool) := [q_90, q_91, q_92, q_93, q_94, q_95, q_96, q_97, q_98, q_99, q_100, q_101, q_102, q_103, q_104, q_105, q_106, q_107, q_108, q_109, q_110, q_111, q_112, q_113, q_114, q_115, q_116, q_117, q_118, q_119]
def qs_4 : List (PySem.W.Frag → Bool) := [q_120, q_121, q_122, q_123, q_124, q_125, q_126, q_127, q_128, q_129, q_130, q_131, q_132, q_133, q_134, q_135, q_136, q_137, q_138, q_139, q_140, q_141, q_142, q_143, q_144, q_145, q_146, q_147, q_148, q_149]
def qs_5 : List (PySem.W.Frag → Bool) := [q_150, q_151, q_152, q_153, q_154, q_155, q_156, q_157, q_158, q_159, q_160, q_161, q_162, q_163, q_164, q_165, q_166, q_167, q_168, q_169, q_170, q_171, q_172, q_173, q_174, q_175, q_176, q_177, q_178, q_179]
def qs_6 : List (PySem.W.Frag → Bool) := [q_180, q_181, q_182, q_183, q_184, q_185, q_186, q_187, q_188, q_189, q_190, q_191, q_192, q_193, q_194, q_195, q_196, q_197, q_198, q_199, q_200, q_201, q_202, q_203, q_204, q_205, q_206, q_207, q_208, q_209]
def qs_7 : List (PySem.W.Frag → Bool) := [q_210, q_211, q_212, q_213, q_214, q_215, q_216, q_217, q_218, q_219, q_220]
def qs : List (PySem.W.Frag → Bool) := qs_0 ++ (qs_1 ++ (qs_2 ++ (qs_3 ++ (qs_4 ++ (qs_5 ++ (qs_6 ++ (qs_7)))))))
def ex (K : PySem.W.Frag) : Bool := qs.all fun q => q K
abbrev R : PySem.W.OpenRow := PySem.W.OpenLaw.row PySem.Challenge.rw_callbinds_k72_covers_refused
abbrev hk : PySem.W.Hook := Dn.hookV 6 dDs ex
def ob (s : PySem.W.SharedT) : He.AlD := Dn.vObs dDs ex (Dn.vK 6 (HandSHeadRun.getT s))
theorem ob_eq (s : PySem.W.SharedT) : ob s = hk.obs s.abs := Dn.obsV_eq (HandSHeadRun.getT_eq s)
def loose_0 : List Str := ["_wall", "CallError", "NoName", "TooMany", "BadOrder", "Twice", "NoChange", "NoDefault", "NoText", "NoRow", "Unknown", "Misfit", "LETTERS", "LONGEST", "is_name", "checked", "Cover", "Ahead", "With", "Spare", "Without", "Exchange", "Swallow", "ByPlace", "ByName", "_law_nth", "_law_is_one", "_law_called", "_law_no_name", "_law_cover"]
def loose_1 : List Str := ["_law_cover_of", "_law_sorts", "_law_bad_made", "_law_refused"]
def loose : List Str := loose_0 ++ (loose_1)
theorem run (w : World) : HandSHeadRun.RunEq R (PySem.W.view R.prog [38]) hk ob 60000 loose w := by
  intro os
  kernel_rfl
theorem tx {K : PySem.W.Frag} {h : Heap} {mg : Str → Option Value} (X : K.In h) (G : h.Ns mainGlobals mg) (c : Dn.SaysV dDs ex K) : ∃ T : Tx K mg, ∀ (s : Shared) (us : List Value), us.length = 1 → BindsTo s T.d_law ⟨us, []⟩ ([("script" : Str)].zip us) := by
  have fq : ∀ (i : Nat) {q : PySem.W.Frag → Bool}, qs[i]? = some q → q K = true := fun i {q} h => head_fact rfl c.more i h
  have dfn : ∀ (i : Nat) {d : He.DefD}, dDs[i]? = some d → ∃ fd, FunD K d.name d.qual d.params d.body d.scope (d.dvs K) (d.kws K) (He.fAd K d.at_) fd := fun i {d} h => c.def_ i h
  exact ⟨{
    C_CallError := (c_CallError K),
    C_NoName := (c_NoName K),
    C_TooMany := (c_TooMany K),
    C_BadOrder := (c_BadOrder K),
    C_Twice := (c_Twice K),
    C_NoChange := (c_NoChange K),
    C_NoDefault := (c_NoDefault K),
    C_NoText := (c_NoText K),
    C_NoRow := (c_NoRow K),
    C_Unknown := (c_Unknown K),
    C_Misfit := (c_Misfit K),
    C_Cover := (c_Cover K),
    C_Ahead := (c_Ahead K),
    C_With := (c_With K),
    C_Spare := (c_Spare K),
    C_Without := (c_Without K),
    C_Exchange := (c_Exchange K),
    C_Swallow := (c_Swallow K),
    C_ByPlace := (c_ByPlace K),
    C_ByName := (c_ByName K),
    a_is_name := (f_is_name K),
    d_is_name := ((dfn 0 rfl : ∃ fd, FunD K "is_name" "is_name" (defArgs s_is_name) (defBody s_is_name) (defScope s_is_name) [] [] (f_is_name K) fd).choose),
    u_is_name := (Fun.ofD (st := s_is_name) ((dfn 0 rfl : ∃ fd, FunD K "is_name" "is_name" (defArgs s_is_name) (defBody s_is_name) (defScope s_is_name) [] [] (f_is_name K) fd).choose_spec)),
    b_is_name := ((Fun.ofD (st := s_is_name) ((dfn 0 rfl : ∃ fd, FunD K "is_name" "is_name" (defArgs s_is_name) (defBody s_is_name) (defScope s_is_name) [] [] (f_is_name K) fd).choose_spec)).binds (ps := p_is_name) fun _ _ _ _ _ _ us hl => match us, hl with | [_], _ => rfl),
    m_is_name := ((PySem.W.mg_of X G (of_decide_eq_true (fq 0 rfl) : PySem.W.nsIn K mainGlobals "is_name" = some (some (.ref (f_is_name K)))))),
    a_checked := (f_checked K),
    d_checked := ((dfn 1 rfl : ∃ fd, FunD K "checked" "checked" (defArgs s_checked) (defBody s_checked) (defScope s_checked) [] [] (f_checked K) fd).choose),
    u_checked := (Fun.ofD (st := s_checked) ((dfn 1 rfl : ∃ fd, FunD K "checked" "checked" (defArgs s_checked) (defBody s_checked) (defScope s_checked) [] [] (f_checked K) fd).choose_spec)),
    b_checked := ((Fun.ofD (st := s_checked) ((dfn 1 rfl : ∃ fd, FunD K "checked" "checked" (defArgs s_checked) (defBody s_checked) (defScope s_checked) [] [] (f_checked K) fd).choose_spec)).binds (ps := p_checked) fun _ _ _ _ _ _ us hl => match us, hl with | [_], _ => rfl),
    m_checked := ((PySem.W.mg_of X G (of_decide_eq_true (fq 1 rfl) : PySem.W.nsIn K mainGlobals "checked" = some (some (.ref (f_checked K)))))),
    a__law_nth := (f__law_nth K),
    d__law_nth := ((dfn 2 rfl : ∃ fd, FunD K "_law_nth" "_law_nth" (defArgs s__law_nth) (defBody s__law_nth) (defScope s__law_nth) [] [] (f__law_nth K) fd).choose),
    u__law_nth := (Fun.ofD (st := s__law_nth) ((dfn 2 rfl : ∃ fd, FunD K "_law_nth" "_law_nth" (defArgs s__law_nth) (defBody s__law_nth) (defScope s__law_nth) [] [] (f__law_nth K) fd).choose_spec)),
    b__law_nth := ((Fun.ofD (st := s__law_nth) ((dfn 2 rfl : ∃ fd, FunD K "_law_nth" "_law_nth" (defArgs s__law_nth) (defBody s__law_nth) (defScope s__law_nth) [] [] (f__law_nth K) fd).choose_spec)).binds (ps := p__law_nth) fun _ _ _ _ _ _ us hl => match us, hl with | [_, _], _ => rfl),
    m__law_nth := ((PySem.W.mg_of X G (of_decide_eq_true (fq 2 rfl) : PySem.W.nsIn K mainGlobals "_law_nth" = some (some (.ref (f__law_nth K)))))),
    a__law_called := (f__law_called K),
    d__law_called := ((dfn 3 rfl : ∃ fd, FunD K "_law_called" "_law_called" (defArgs s__law_called) (defBody s__law_called) (defScope s__law_called) [] [] (f__law_called K) fd).choose),
    u__law_called := (Fun.ofD (st := s__law_called) ((dfn 3 rfl : ∃ fd, FunD K "_law_called" "_law_called" (defArgs s__law_called) (defBody s__law_called) (defScope s__law_called) [] [] (f__law_called K) fd).choose_spec)),
    b__law_called := ((Fun.ofD (st := s__law_called) ((dfn 3 rfl : ∃ fd, FunD K "_law_called" "_law_called" (defArgs s__law_called) (defBody s__law_called) (defScope s__law_called) [] [] (f__law_called K) fd).choose_spec)).binds (ps := p__law_called) fun _ _ _ _ _ _ us hl => match us, hl with | [_], _ => rfl),
    m__law_called := ((PySem.W.mg_of X G (of_decide_eq_true (fq 3 rfl) : PySem.W.nsIn K mainGlobals "_law_called" = some (some (.ref (f__law_called K)))))),
    a__law_no_name := (f__law_no_name K),
    d__law_no_name := ((dfn 4 rfl : ∃ fd, FunD K "_law_no_name" "_law_no_name" (defArgs s__law_no_name) (defBody s__law_no_name) (defScope s__law_no_name) [] [] (f__law_no_name K) fd).choose),
    u__law_no_name := (Fun.ofD (st := s__law_no_name) ((dfn 4 rfl : ∃ fd, FunD K "_law_no_name" "_law_no_name" (defArgs s__law_no_name) (defBody s__law_no_name) (defScope s__law_no_name) [] [] (f__law_no_name K) fd).choose_spec)),
    b__law_no_name := ((Fun.ofD (st := s__law_no_name) ((dfn 4 rfl : ∃ fd, FunD K "_law_no_name" "_law_no_name" (defArgs s__law_no_name) (defBody s__law_no_name) (defScope s__law_no_name) [] [] (f__law_no_name K) fd).choose_spec)).binds (ps := p__law_no_name) fun _ _ _ _ _ _ us hl => match us, hl with | [_], _ => rfl),
    m__law_no_name := ((PySem.W.mg_of X G (of_decide_eq_true (fq 4 rfl) : PySem.W.nsIn K mainGlobals "_law_no_name" = some (some (.ref (f__law_no_name K)))))),
    a__law_cover := (f__law_cover K),
    d__law_cover := ((dfn 5 rfl : ∃ fd, FunD K "_law_cover" "_law_cover" (defArgs s__law_cover) (defBody s__law_cover) (defScope s__law_cover) [] [] (f__law_cover K) fd).choose),
    u__law_cover := (Fun.ofD (st := s__law_cover) ((dfn 5 rfl : ∃ fd, FunD K "_law_cover" "_law_cover" (defArgs s__law_cover) (defBody s__law_cover) (defScope s__law_cover) [] [] (f__law_cover K) fd).choose_spec)),
    b__law_cover := ((Fun.ofD (st := s__law_cover) ((dfn 5 rfl : ∃ fd, FunD K "_law_cover" "_law_cover" (defArgs s__law_cover) (defBody s__law_cover) (defScope s__law_cover) [] [] (f__law_cover K) fd).choose_spec)).binds (ps := p__law_cover) fun _ _ _ _ _ _ us hl => match us, hl with | [_, _], _ => rfl),
    m__law_cover := ((PySem.W.mg_of X G (of_decide_eq_true (fq 5 rfl) : PySem.W.nsIn K mainGlobals "_law_cover" = some (some (.ref (f__law_cover K)))))),
    a__law_cover_of := (f__law_cover_of K),
    d__law_cover_of := ((dfn 6 rfl : ∃ fd, FunD K "_law_cover_of" "_law_cover_of" (defArgs s__law_cover_of) (defBody s__law_cover_of) (defScope s__law_cover_of) [] [] (f__law_cover_of K) fd).choose),
    u__law_cover_of := (Fun.ofD (st := s__law_cover_of) ((dfn 6 rfl : ∃ fd, FunD K "_law_cover_of" "_law_cover_of" (defArgs s__law_cover_of) (defBody s__law_cover_of) (defScope s__law_cover_of) [] [] (f__law_cover_of K) fd).choose_spec)),
    b__law_cover_of := ((Fun.ofD (st := s__law_cover_of) ((dfn 6 rfl : ∃ fd, FunD K "_law_cover_of" "_law_cover_of" (defArgs s__law_cover_of) (defBody s__law_cover_of) (defScope s__law_cover_of) [] [] (f__law_cover_of K) fd).choose_spec)).binds (ps := p__law_cover_of) fun _ _ _ _ _ _ us hl => match us, hl with | [_], _ => rfl),
    m__law_cover_of := ((PySem.W.mg_of X G (of_decide_eq_true (fq 6 rfl) : PySem.W.nsIn K mainGlobals "_law_cover_of" = some (some (.ref (f__law_cover_of K)))))),
    a__law_sorts := (f__law_sorts K),
    d__law_sorts := ((dfn 7 rfl : ∃ fd, FunD K "_law_sorts" "_law_sorts" (defArgs s__law_sorts) (defBody s__law_sorts) (defScope s__law_sorts) [] [] (f__law_sorts K) fd).choose),
    u__law_sorts := (Fun.ofD (st := s__law_sorts) ((dfn 7 rfl : ∃ fd, FunD K "_law_sorts" "_law_sorts" (defArgs s__law_sorts) (defBody s__law_sorts) (defScope s__law_sorts) [] [] (f__law_sorts K) fd).choose_spec)),
    b__law_sorts := ((Fun.ofD (st := s__law_sorts) ((dfn 7 rfl : ∃ fd, FunD K "_law_sorts" "_law_sorts" (defArgs s__law_sorts) (defBody s__law_sorts) (defScope s__law_sorts) [] [] (f__law_sorts K) fd).choose_spec)).binds (ps := p__law_sorts) fun _ _ _ _ _ _ us hl => match us, hl with | [_], _ => rfl),
    m__law_sorts := ((PySem.W.mg_of X G (of_decide_eq_true (fq 7 rfl) : PySem.W.nsIn K mainGlobals "_law_sorts" = some (some (.ref (f__law_sorts K)))))),
    a__law_bad_made := (f__law_bad_made K),
    d__law_bad_made := ((dfn 8 rfl : ∃ fd, FunD K "_law_bad_made" "_law_bad_made" (defArgs s__law_bad_made) (defBody s__law_bad_made) (defScope s__law_bad_made) [] [] (f__law_bad_made K) fd).choose),
    u__law_bad_made := (Fun.ofD (st := s__law_bad_made) ((dfn 8 rfl : ∃ fd, FunD K "_law_bad_made" "_law_bad_made" (defArgs s__law_bad_made) (defBody s__law_bad_made) (defScope s__law_bad_made) [] [] (f__law_bad_made K) fd).choose_spec)),
    b__law_bad_made := ((Fun.ofD (st := s__law_bad_made) ((dfn 8 rfl : ∃ fd, FunD K "_law_bad_made" "_law_bad_made" (defArgs s__law_bad_made) (defBody s__law_bad_made) (defScope s__law_bad_made) [] [] (f__law_bad_made K) fd).choose_spec)).binds (ps := p__law_bad_made) fun _ _ _ _ _ _ us hl => match us, hl with | [_, _, _], _ => rfl),
    m__law_bad_made := ((PySem.W.mg_of X G (of_decide_eq_true (fq 8 rfl) : PySem.W.nsIn K mainGlobals "_law_bad_made" = some (some (.ref (f__law_bad_made K)))))),
    a__law_refused := (f__law_refused K),
    d__law_refused := ((dfn 9 rfl : ∃ fd, FunD K "_law_refused" "_law_refused" (defArgs s__law_refused) (defBody s__law_refused) (defScope s__law_refused) [] [] (f__law_refused K) fd).choose),
    u__law_refused := (Fun.ofD (st := s__law_refused) ((dfn 9 rfl : ∃ fd, FunD K "_law_refused" "_law_refused" (defArgs s__law_refused) (defBody s__law_refused) (defScope s__law_refused) [] [] (f__law_refused K) fd).choose_spec)),
    b__law_refused := ((Fun.ofD (st := s__law_refused) ((dfn 9 rfl : ∃ fd, FunD K "_law_refused" "_law_refused" (defArgs s__law_refused) (defBody s__law_refused) (defScope s__law_refused) [] [] (f__law_refused K) fd).choose_spec)).binds (ps := p__law_refused) fun _ _ _ _ _ _ us hl => match us, hl with | [_, _, _], _ => rfl),
    m__law_refused := ((PySem.W.mg_of X G (of_decide_eq_true (fq 9 rfl) : PySem.W.nsIn K mainGlobals "_law_refused" = some (some (.ref (f__law_refused K)))))),
    a_law := (f_law K),
    d_law := ((dfn 10 rfl : ∃ fd, FunD K "law" "law" (defArgs s_law) (defBody s_law) (defScope s_law) [] [] (f_law K) fd).choose),
    u_law := (Fun.ofD (st := s_law) ((dfn 10 rfl : ∃ fd, FunD K "law" "law" (defArgs s_law) (defBody s_law) (defScope s_law) [] [] (f_law K) fd).choose_spec)),
    b_law := ((Fun.ofD (st := s_law) ((dfn 10 rfl : ∃ fd, FunD K "law" "law" (defArgs s_law) (defBody s_law) (defScope s_law) [] [] (f_law K) fd).choose_spec)).binds (ps := p_law) fun _ _ _ _ _ _ us hl => match us, hl with | [_], _ => rfl),
    m_law := ((PySem.W.mg_of X G (of_decide_eq_true (fq 10 rfl) : PySem.W.nsIn K mainGlobals "law" = some (some (.ref (f_law K)))))),
    a_Ahead_init := (f_Ahead_init K),
    d_Ahead_init := ((dfn 11 rfl : ∃ fd, FunD K "__init__" "Ahead.__init__" (defArgs s_Ahead_init) (defBody s_Ahead_init) (defScope s_Ahead_init) [] [] (f_Ahead_init K) fd).choose),
    u_Ahead_init := (Fun.ofD (st := s_Ahead_init) ((dfn 11 rfl : ∃ fd, FunD K "__init__" "Ahead.__init__" (defArgs s_Ahead_init) (defBody s_Ahead_init) (defScope s_Ahead_init) [] [] (f_Ahead_init K) fd).choose_spec)),
    b_Ahead_init := ((Fun.ofD (st := s_Ahead_init) ((dfn 11 rfl : ∃ fd, FunD K "__init__" "Ahead.__init__" (defArgs s_Ahead_init) (defBody s_Ahead_init) (defScope s_Ahead_init) [] [] (f_Ahead_init K) fd).choose_spec)).binds (ps := p_Ahead_init) fun _ _ _ _ _ _ us hl => match us, hl with | [_, _], _ => rfl),
    a_With_init := (f_With_init K),
    d_With_init := ((dfn 12 rfl : ∃ fd, FunD K "__init__" "With.__init__" (defArgs s_With_init) (defBody s_With_init) (defScope s_With_init) [] [] (f_With_init K) fd).choose),
    u_With_init := (Fun.ofD (st := s_With_init) ((dfn 12 rfl : ∃ fd, FunD K "__init__" "With.__init__" (defArgs s_With_init) (defBody s_With_init) (defScope s_With_init) [] [] (f_With_init K) fd).choose_spec)),
    b_With_init := ((Fun.ofD (st := s_With_init) ((dfn 12 rfl : ∃ fd, FunD K "__init__" "With.__init__" (defArgs s_With_init) (defBody s_With_init) (defScope s_With_init) [] [] (f_With_init K) fd).choose_spec)).binds (ps := p_With_init) fun _ _ _ _ _ _ us hl => match us, hl with | [_, _, _], _ => rfl),
    a_Spare_init := (f_Spare_init K),
    d_Spare_init := ((dfn 13 rfl : ∃ fd, FunD K "__init__" "Spare.__init__" (defArgs s_Spare_init) (defBody s_Spare_init) (defScope s_Spare_init) [] [] (f_Spare_init K) fd).choose),
    u_Spare_init := (Fun.ofD (st := s_Spare_init) ((dfn 13 rfl : ∃ fd, FunD K "__init__" "Spare.__init__" (defArgs s_Spare_init) (defBody s_Spare_init) (defScope s_Spare_init) [] [] (f_Spare_init K) fd).choose_spec)),
    b_Spare_init := ((Fun.ofD (st := s_Spare_init) ((dfn 13 rfl : ∃ fd, FunD K "__init__" "Spare.__init__" (defArgs s_Spare_init) (defBody s_Spare_init) (defScope s_Spare_init) [] [] (f_Spare_init K) fd).choose_spec)).binds (ps := p_Spare_init) fun _ _ _ _ _ _ us hl => match us, hl with | [_, _, _], _ => rfl),
    a_Without_init := (f_Without_init K),
    d_Without_init := ((dfn 14 rfl : ∃ fd, FunD K "__init__" "Without.__init__" (defArgs s_Without_init) (defBody s_Without_init) (defScope s_Without_init) [] [] (f_Without_init K) fd).choose),
    u_Without_init := (Fun.ofD (st := s_Without_init) ((dfn 14 rfl : ∃ fd, FunD K "__init__" "Without.__init__" (defArgs s_Without_init) (defBody s_Without_init) (defScope s_Without_init) [] [] (f_Without_init K) fd).choose_spec)),
    b_Without_init := ((Fun.ofD (st := s_Without_init) ((dfn 14 rfl : ∃ fd, FunD K "__init__" "Without.__init__" (defArgs s_Without_init) (defBody s_Without_init) (defScope s_Without_init) [] [] (f_Without_init K) fd).choose_spec)).binds (ps := p_Without_init) fun _ _ _ _ _ _ us hl => match us, hl with | [_, _], _ => rfl),
    a_Exchange_init := (f_Exchange_init K),
    d_Exchange_init := ((dfn 15 rfl : ∃ fd, FunD K "__init__" "Exchange.__init__" (defArgs s_Exchange_init) (defBody s_Exchange_init) (defScope s_Exchange_init) [] [] (f_Exchange_init K) fd).choose),
    u_Exchange_init := (Fun.ofD (st := s_Exchange_init) ((dfn 15 rfl : ∃ fd, FunD K "__init__" "Exchange.__init__" (defArgs s_Exchange_init) (defBody s_Exchange_init) (defScope s_Exchange_init) [] [] (f_Exchange_init K) fd).choose_spec)),
    b_Exchange_init := ((Fun.ofD (st := s_Exchange_init) ((dfn 15 rfl : ∃ fd, FunD K "__init__" "Exchange.__init__" (defArgs s_Exchange_init) (defBody s_Exchange_init) (defScope s_Exchange_init) [] [] (f_Exchange_init K) fd).choose_spec)).binds (ps := p_Exchange_init) fun _ _ _ _ _ _ us hl => match us, hl with | [_, _, _], _ => rfl),
    z_ValueError := ((PySem.W.mg_none_of X G (of_decide_eq_true (fq 11 rfl) : PySem.W.nsIn K mainGlobals "ValueError" = some none))),
    z_all := ((PySem.W.mg_none_of X G (of_decide_eq_true (fq 12 rfl) : PySem.W.nsIn K mainGlobals "all" = some none))),
    z_int := ((PySem.W.mg_none_of X G (of_decide_eq_true (fq 13 rfl) : PySem.W.nsIn K mainGlobals "int" = some none))),
    z_isinstance := ((PySem.W.mg_none_of X G (of_decide_eq_true (fq 14 rfl) : PySem.W.nsIn K mainGlobals "isinstance" = some none))),
    z_len := ((PySem.W.mg_none_of X G (of_decide_eq_true (fq 15 rfl) : PySem.W.nsIn K mainGlobals "len" = some none))),
    z_range := ((PySem.W.mg_none_of X G (of_decide_eq_true (fq 16 rfl) : PySem.W.nsIn K mainGlobals "range" = some none))),
    z_str := ((PySem.W.mg_none_of X G (of_decide_eq_true (fq 17 rfl) : PySem.W.nsIn K mainGlobals "str" = some none))),
    t_LONGEST := ((He.int_ok X G (fq 18 rfl) : ∃ t, mg "LONGEST" = some (.int 8 t)).choose),
    g_LONGEST := ((He.int_ok X G (fq 18 rfl) : ∃ t, mg "LONGEST" = some (.int 8 t)).choose_spec),
    t_LETTERS := ((He.str_ok X G (fq 19 rfl) : ∃ t, mg "LETTERS" = some (.str "abcdefghijklmnopqrstuvwxyz" t)).choose),
    g_LETTERS := ((He.str_ok X G (fq 19 rfl) : ∃ t, mg "LETTERS" = some (.str "abcdefghijklmnopqrstuvwxyz" t)).choose_spec),
    m_Cover := ((PySem.W.mg_of X G (of_decide_eq_true (fq 20 rfl) : PySem.W.nsIn K mainGlobals "Cover" = some (some (.ref (c_Cover K)))))),
    cl_Ahead := (⟨(fq 21 rfl), (fq 22 rfl), (fq 23 rfl), (of_decide_eq_true (fq 24 rfl) : PySem.W.findIn K (.ref (c_Ahead K)) "__setattr__" = some (some (.builtin "object.__setattr__")))⟩),
    kc_Ahead := ((of_decide_eq_true (fq 25 rfl) : PySem.W.findIn K (.ref (c_Ahead K)) "__class__" = some (some (.builtin "object.__class__")))),
    mo_Ahead := ((of_decide_eq_true (fq 26 rfl) : PySem.W.mroIn K (c_Ahead K) (.type "object") = some true)),
    ko_Ahead_Cover := ((of_decide_eq_true (fq 27 rfl) : PySem.W.kitOne K (.ref (c_Ahead K)) (.ref (c_Cover K)) = some true)),
    cl_With := (⟨(fq 28 rfl), (fq 29 rfl), (fq 30 rfl), (of_decide_eq_true (fq 31 rfl) : PySem.W.findIn K (.ref (c_With K)) "__setattr__" = some (some (.builtin "object.__setattr__")))⟩),
    kc_With := ((of_decide_eq_true (fq 32 rfl) : PySem.W.findIn K (.ref (c_With K)) "__class__" = some (some (.builtin "object.__class__")))),
    mo_With := ((of_decide_eq_true (fq 33 rfl) : PySem.W.mroIn K (c_With K) (.type "object") = some true)),
    ko_With_Cover := ((of_decide_eq_true (fq 34 rfl) : PySem.W.kitOne K (.ref (c_With K)) (.ref (c_Cover K)) = some true)),
    cl_Spare := (⟨(fq 35 rfl), (fq 36 rfl), (fq 37 rfl), (of_decide_eq_true (fq 38 rfl) : PySem.W.findIn K (.ref (c_Spare K)) "__setattr__" = some (some (.builtin "object.__setattr__")))⟩),
    kc_Spare := ((of_decide_eq_true (fq 39 rfl) : PySem.W.findIn K (.ref (c_Spare K)) "__class__" = some (some (.builtin "object.__class__")))),
    mo_Spare := ((of_decide_eq_true (fq 40 rfl) : PySem.W.mroIn K (c_Spare K) (.type "object") = some true)),
    ko_Spare_Cover := ((of_decide_eq_true (fq 41 rfl) : PySem.W.kitOne K (.ref (c_Spare K)) (.ref (c_Cover K)) = some true)),
    cl_Without := (⟨(fq 42 rfl), (fq 43 rfl), (fq 44 rfl), (of_decide_eq_true (fq 45 rfl) : PySem.W.findIn K (.ref (c_Without K)) "__setattr__" = some (some (.builtin "object.__setattr__")))⟩),
    kc_Without := ((of_decide_eq_true (fq 46 rfl) : PySem.W.findIn K (.ref (c_Without K)) "__class__" = some (some (.builtin "object.__class__")))),
    mo_Without := ((of_decide_eq_true (fq 47 rfl) : PySem.W.mroIn K (c_Without K) (.type "object") = some true)),
    ko_Without_Cover := ((of_decide_eq_true (fq 48 rfl) : PySem.W.kitOne K (.ref (c_Without K)) (.ref (c_Cover K)) = some true)),
    cl_Exchange := (⟨(fq 49 rfl), (fq 50 rfl), (fq 51 rfl), (of_decide_eq_true (fq 52 rfl) : PySem.W.findIn K (.ref (c_Exchange K)) "__setattr__" = some (some (.builtin "object.__setattr__")))⟩),
    kc_Exchange := ((of_decide_eq_true (fq 53 rfl) : PySem.W.findIn K (.ref (c_Exchange K)) "__class__" = some (some (.builtin "object.__class__")))),
    mo_Exchange := ((of_decide_eq_true (fq 54 rfl) : PySem.W.mroIn K (c_Exchange K) (.type "object") = some true)),
    ko_Exchange_Cover := ((of_decide_eq_true (fq 55 rfl) : PySem.W.kitOne K (.ref (c_Exchange K)) (.ref (c_Cover K)) = some true)),
    cl_Swallow := (⟨(fq 56 rfl), (fq 57 rfl), (fq 58 rfl), (of_decide_eq_true (fq 59 rfl) : PySem.W.findIn K (.ref (c_Swallow K)) "__setattr__" = some (some (.builtin "object.__setattr__")))⟩),
    kc_Swallow := ((of_decide_eq_true (fq 60 rfl) : PySem.W.findIn K (.ref (c_Swallow K)) "__class__" = some (some (.builtin "object.__class__")))),
    mo_Swallow := ((of_decide_eq_true (fq 61 rfl) : PySem.W.mroIn K (c_Swallow K) (.type "object") = some true)),
    ko_Swallow_Cover := ((of_decide_eq_true (fq 62 rfl) : PySem.W.kitOne K (.ref (c_Swallow K)) (.ref (c_Cover K)) = some true)),
    cl_ByPlace := (⟨(fq 63 rfl), (fq 64 rfl), (fq 65 rfl), (of_decide_eq_true (fq 66 rfl) : PySem.W.findIn K (.ref (c_ByPlace K)) "__setattr__" = some (some (.builtin "object.__setattr__")))⟩),
    kc_ByPlace := ((of_decide_eq_true (fq 67 rfl) : PySem.W.findIn K (.ref (c_ByPlace K)) "__class__" = some (some (.builtin "object.__class__")))),
    mo_ByPlace := ((of_decide_eq_true (fq 68 rfl) : PySem.W.mroIn K (c_ByPlace K) (.type "object") = some true)),
    ko_ByPlace_Cover := ((of_decide_eq_true (fq 69 rfl) : PySem.W.kitOne K (.ref (c_ByPlace K)) (.ref (c_Cover K)) = some true)),
    cl_ByName := (⟨(fq 70 rfl), (fq 71 rfl), (fq 72 rfl), (of_decide_eq_true (fq 73 rfl) : PySem.W.findIn K (.ref (c_ByName K)) "__setattr__" = some (some (.builtin "object.__setattr__")))⟩),
    kc_ByName := ((of_decide_eq_true (fq 74 rfl) : PySem.W.findIn K (.ref (c_ByName K)) "__class__" = some (some (.builtin "object.__class__")))),
    mo_ByName := ((of_decide_eq_true (fq 75 rfl) : PySem.W.mroIn K (c_ByName K) (.type "object") = some true)),
    ko_ByName_Cover := ((of_decide_eq_true (fq 76 rfl) : PySem.W.kitOne K (.ref (c_ByName K)) (.ref (c_Cover K)) = some true)),
    oc_n := ((of_decide_eq_true (fq 77 rfl) : PySem.W.specialIn K (.builtin "object.__class__") "__get__" = some (some (.builtin "getset_descriptor.__get__")))),
    oc_t := ((of_decide_eq_true (fq 78 rfl) : PySem.W.takesIn K (.builtin "object.__class__") = some true)),
    m_Ahead := ((PySem.W.mg_of X G (of_decide_eq_true (fq 79 rfl) : PySem.W.nsIn K mainGlobals "Ahead" = some (some (.ref (c_Ahead K)))))),
    ko_Ahead_Ahead := ((of_decide_eq_true (fq 80 rfl) : PySem.W.kitOne K (.ref (c_Ahead K)) (.ref (c_Ahead K)) = some true)),
    ko_With_Ahead := ((of_decide_eq_true (fq 81 rfl) : PySem.W.kitOne K (.ref (c_With K)) (.ref (c_Ahead K)) = some false)),
    ko_Spare_Ahead := ((of_decide_eq_true (fq 82 rfl) : PySem.W.kitOne K (.ref (c_Spare K)) (.ref (c_Ahead K)) = some false)),
    ko_Without_Ahead := ((of_decide_eq_true (fq 83 rfl) : PySem.W.kitOne K (.ref (c_Without K)) (.ref (c_Ahead K)) = some false)),
    ko_Exchange_Ahead := ((of_decide_eq_true (fq 84 rfl) : PySem.W.kitOne K (.ref (c_Exchange K)) (.ref (c_Ahead K)) = some false)),
    ko_Swallow_Ahead := ((of_decide_eq_true (fq 85 rfl) : PySem.W.kitOne K (.ref (c_Swallow K)) (.ref (c_Ahead K)) = some false)),
    ko_ByPlace_Ahead := ((of_decide_eq_true (fq 86 rfl) : PySem.W.kitOne K (.ref (c_ByPlace K)) (.ref (c_Ahead K)) = some false)),
    ko_ByName_Ahead := ((of_decide_eq_true (fq 87 rfl) : PySem.W.kitOne K (.ref (c_ByName K)) (.ref (c_Ahead K)) = some false)),
    m_With := ((PySem.W.mg_of X G (of_decide_eq_true (fq 88 rfl) : PySem.W.nsIn K mainGlobals "With" = some (some (.ref (c_With K)))))),
    ko_Ahead_With := ((of_decide_eq_true (fq 89 rfl) : PySem.W.kitOne K (.ref (c_Ahead K)) (.ref (c_With K)) = some false)),
    ko_With_With := ((of_decide_eq_true (fq 90 rfl) : PySem.W.kitOne K (.ref (c_With K)) (.ref (c_With K)) = some true)),
    ko_Spare_With := ((of_decide_eq_true (fq 91 rfl) : PySem.W.kitOne K (.ref (c_Spare K)) (.ref (c_With K)) = some false)),
    ko_Without_With := ((of_decide_eq_true (fq 92 rfl) : PySem.W.kitOne K (.ref (c_Without K)) (.ref (c_With K)) = some false)),
    ko_Exchange_With := ((of_decide_eq_true (fq 93 rfl) : PySem.W.kitOne K (.ref (c_Exchange K)) (.ref (c_With K)) = some false)),
    ko_Swallow_With := ((of_decide_eq_true (fq 94 rfl) : PySem.W.kitOne K (.ref (c_Swallow K)) (.ref (c_With K)) = some false)),
    ko_ByPlace_With := ((of_decide_eq_true (fq 95 rfl) : PySem.W.kitOne K (.ref (c_ByPlace K)) (.ref (c_With K)) = some false)),
    ko_ByName_With := ((of_decide_eq_true (fq 96 rfl) : PySem.W.kitOne K (.ref (c_ByName K)) (.ref (c_With K)) = some false)),
    m_Spare := ((PySem.W.mg_of X G (of_decide_eq_true (fq 97 rfl) : PySem.W.nsIn K mainGlobals "Spare" = some (some (.ref (c_Spare K)))))),
    ko_Ahead_Spare := ((of_decide_eq_true (fq 98 rfl) : PySem.W.kitOne K (.ref (c_Ahead K)) (.ref (c_Spare K)) = some false)),
    ko_With_Spare := ((of_decide_eq_true (fq 99 rfl) : PySem.W.kitOne K (.ref (c_With K)) (.ref (c_Spare K)) = some false)),
    ko_Spare_Spare := ((of_decide_eq_true (fq 100 rfl) : PySem.W.kitOne K (.ref (c_Spare K)) (.ref (c_Spare K)) = some true)),
    ko_Without_Spare := ((of_decide_eq_true (fq 101 rfl) : PySem.W.kitOne K (.ref (c_Without K)) (.ref (c_Spare K)) = some false)),
    ko_Exchange_Spare := ((of_decide_eq_true (fq 102 rfl) : PySem.W.kitOne K (.ref (c_Exchange K)) (.ref (c_Spare K)) = some false)),
    ko_Swallow_Spare := ((of_decide_eq_true (fq 103 rfl) : PySem.W.kitOne K (.ref (c_Swallow K)) (.ref (c_Spare K)) = some false)),
    ko_ByPlace_Spare := ((of_decide_eq_true (fq 104 rfl) : PySem.W.kitOne K (.ref (c_ByPlace K)) (.ref (c_Spare K)) = some false)),
    ko_ByName_Spare := ((of_decide_eq_true (fq 105 rfl) : PySem.W.kitOne K (.ref (c_ByName K)) (.ref (c_Spare K)) = some false)),
    m_Without := ((PySem.W.mg_of X G (of_decide_eq_true (fq 106 rfl) : PySem.W.nsIn K mainGlobals "Without" = some (some (.ref (c_Without K)))))),
    ko_Ahead_Without := ((of_decide_eq_true (fq 107 rfl) : PySem.W.kitOne K (.ref (c_Ahead K)) (.ref (c_Without K)) = some false)),
    ko_With_Without := ((of_decide_eq_true (fq 108 rfl) : PySem.W.kitOne K (.ref (c_With K)) (.ref (c_Without K)) = some false)),
    ko_Spare_Without := ((of_decide_eq_true (fq 109 rfl) : PySem.W.kitOne K (.ref (c_Spare K)) (.ref (c_Without K)) = some false)),
    ko_Without_Without := ((of_decide_eq_true (fq 110 rfl) : PySem.W.kitOne K (.ref (c_Without K)) (.ref (c_Without K)) = some true)),
    ko_Exchange_Without := ((of_decide_eq_true (fq 111 rfl) : PySem.W.kitOne K (.ref (c_Exchange K)) (.ref (c_Without K)) = some false)),
    ko_Swallow_Without := ((of_decide_eq_true (fq 112 rfl) : PySem.W.kitOne K (.ref (c_Swallow K)) (.ref (c_Without K)) = some false)),
    ko_ByPlace_Without := ((of_decide_eq_true (fq 113 rfl) : PySem.W.kitOne K (.ref (c_ByPlace K)) (.ref (c_Without K)) = some false)),
    ko_ByName_Without := ((of_decide_eq_true (fq 114 rfl) : PySem.W.kitOne K (.ref (c_ByName K)) (.ref (c_Without K)) = some false)),
    m_Exchange := ((PySem.W.mg_of X G (of_decide_eq_true (fq 115 rfl) : PySem.W.nsIn K mainGlobals "Exchange" = some (some (.ref (c_Exchange K)))))),
    ko_Ahead_Exchange := ((of_decide_eq_true (fq 116 rfl) : PySem.W.kitOne K (.ref (c_Ahead K)) (.ref (c_Exchange K)) = some false)),
    ko_With_Exchange := ((of_decide_eq_true (fq 117 rfl) : PySem.W.kitOne K (.ref (c_With K)) (.ref (c_Exchange K)) = some false)),
    ko_Spare_Exchange := ((of_decide_eq_true (fq 118 rfl) : PySem.W.kitOne K (.ref (c_Spare K)) (.ref (c_Exchange K)) = some false)),
    ko_Without_Exchange := ((of_decide_eq_true (fq 119 rfl) : PySem.W.kitOne K (.ref (c_Without K)) (.ref (c_Exchange K)) = some false)),
    ko_Exchange_Exchange := ((of_decide_eq_true (fq 120 rfl) : PySem.W.kitOne K (.ref (c_Exchange K)) (.ref (c_Exchange K)) = some true)),
    ko_Swallow_Exchange := ((of_decide_eq_true (fq 121 rfl) : PySem.W.kitOne K (.ref (c_Swallow K)) (.ref (c_Exchange K)) = some false)),
    ko_ByPlace_Exchange := ((of_decide_eq_true (fq 122 rfl) : PySem.W.kitOne K (.ref (c_ByPlace K)) (.ref (c_Exchange K)) = some false)),
    ko_ByName_Exchange := ((of_decide_eq_true (fq 123 rfl) : PySem.W.kitOne K (.ref (c_ByName K)) (.ref (c_Exchange K)) = some false)),
    m_Swallow := ((PySem.W.mg_of X G (of_decide_eq_true (fq 124 rfl) : PySem.W.nsIn K mainGlobals "Swallow" = some (some (.ref (c_Swallow K)))))),
    ko_Ahead_Swallow := ((of_decide_eq_true (fq 125 rfl) : PySem.W.kitOne K (.ref (c_Ahead K)) (.ref (c_Swallow K)) = some false)),
    ko_With_Swallow := ((of_decide_eq_true (fq 126 rfl) : PySem.W.kitOne K (.ref (c_With K)) (.ref (c_Swallow K)) = some false)),
    ko_Spare_Swallow := ((of_decide_eq_true (fq 127 rfl) : PySem.W.kitOne K (.ref (c_Spare K)) (.ref (c_Swallow K)) = some false)),
    ko_Without_Swallow := ((of_decide_eq_true (fq 128 rfl) : PySem.W.kitOne K (.ref (c_Without K)) (.ref (c_Swallow K)) = some false)),
    ko_Exchange_Swallow := ((of_decide_eq_true (fq 129 rfl) : PySem.W.kitOne K (.ref (c_Exchange K)) (.ref (c_Swallow K)) = some false)),
    ko_Swallow_Swallow := ((of_decide_eq_true (fq 130 rfl) : PySem.W.kitOne K (.ref (c_Swallow K)) (.ref (c_Swallow K)) = some true)),
    ko_ByPlace_Swallow := ((of_decide_eq_true (fq 131 rfl) : PySem.W.kitOne K (.ref (c_ByPlace K)) (.ref (c_Swallow K)) = some false)),
    ko_ByName_Swallow := ((of_decide_eq_true (fq 132 rfl) : PySem.W.kitOne K (.ref (c_ByName K)) (.ref (c_Swallow K)) = some false)),
    m_ByPlace := ((PySem.W.mg_of X G (of_decide_eq_true (fq 133 rfl) : PySem.W.nsIn K mainGlobals "ByPlace" = some (some (.ref (c_ByPlace K)))))),
    ko_Ahead_ByPlace := ((of_decide_eq_true (fq 134 rfl) : PySem.W.kitOne K (.ref (c_Ahead K)) (.ref (c_ByPlace K)) = some false)),
    ko_With_ByPlace := ((of_decide_eq_true (fq 135 rfl) : PySem.W.kitOne K (.ref (c_With K)) (.ref (c_ByPlace K)) = some false)),
    ko_Spare_ByPlace := ((of_decide_eq_true (fq 136 rfl) : PySem.W.kitOne K (.ref (c_Spare K)) (.ref (c_ByPlace K)) = some false)),
    ko_Without_ByPlace := ((of_decide_eq_true (fq 137 rfl) : PySem.W.kitOne K (.ref (c_Without K)) (.ref (c_ByPlace K)) = some false)),
    ko_Exchange_ByPlace := ((of_decide_eq_true (fq 138 rfl) : PySem.W.kitOne K (.ref (c_Exchange K)) (.ref (c_ByPlace K)) = some false)),
    ko_Swallow_ByPlace := ((of_decide_eq_true (fq 139 rfl) : PySem.W.kitOne K (.ref (c_Swallow K)) (.ref (c_ByPlace K)) = some false)),
    ko_ByPlace_ByPlace := ((of_decide_eq_true (fq 140 rfl) : PySem.W.kitOne K (.ref (c_ByPlace K)) (.ref (c_ByPlace K)) = some true)),
    ko_ByName_ByPlace := ((of_decide_eq_true (fq 141 rfl) : PySem.W.kitOne K (.ref (c_ByName K)) (.ref (c_ByPlace K)) = some false)),
    m_ByName := ((PySem.W.mg_of X G (of_decide_eq_true (fq 142 rfl) : PySem.W.nsIn K mainGlobals "ByName" = some (some (.ref (c_ByName K)))))),
    ko_Ahead_ByName := ((of_decide_eq_true (fq 143 rfl) : PySem.W.kitOne K (.ref (c_Ahead K)) (.ref (c_ByName K)) = some false)),
    ko_With_ByName := ((of_decide_eq_true (fq 144 rfl) : PySem.W.kitOne K (.ref (c_With K)) (.ref (c_ByName K)) = some false)),
    ko_Spare_ByName := ((of_decide_eq_true (fq 145 rfl) : PySem.W.kitOne K (.ref (c_Spare K)) (.ref (c_ByName K)) = some false)),
    ko_Without_ByName := ((of_decide_eq_true (fq 146 rfl) : PySem.W.kitOne K (.ref (c_Without K)) (.ref (c_ByName K)) = some false)),
    ko_Exchange_ByName := ((of_decide_eq_true (fq 147 rfl) : PySem.W.kitOne K (.ref (c_Exchange K)) (.ref (c_ByName K)) = some false)),
    ko_Swallow_ByName := ((of_decide_eq_true (fq 148 rfl) : PySem.W.kitOne K (.ref (c_Swallow K)) (.ref (c_ByName K)) = some false)),
    ko_ByPlace_ByName := ((of_decide_eq_true (fq 149 rfl) : PySem.W.kitOne K (.ref (c_ByPlace K)) (.ref (c_ByName K)) = some false)),
    ko_ByName_ByName := ((of_decide_eq_true (fq 150 rfl) : PySem.W.kitOne K (.ref (c_ByName K)) (.ref (c_ByName K)) = some true)),
    m_CallError := ((PySem.W.mg_of X G (of_decide_eq_true (fq 151 rfl) : PySem.W.nsIn K mainGlobals "CallError" = some (some (.ref (c_CallError K)))))),
    eo_NoName := (⟨(fq 152 rfl), (of_decide_eq_true (fq 153 rfl) : PySem.W.findIn K (.ref (c_NoName K)) "__getattribute__" = some (some (.builtin "BaseException.__getattribute__"))), (of_decide_eq_true (fq 154 rfl) : PySem.W.findIn K (.ref (c_NoName K)) "__getattr__" = some none), (of_decide_eq_true (fq 155 rfl) : PySem.W.subIn K (.ref (c_NoName K)) (.type "BaseException") = some true), (fq 156 rfl), (of_decide_eq_true (fq 157 rfl) : PySem.W.findIn K (.ref (c_NoName K)) "__class__" = some (some (.builtin "object.__class__"))), (of_decide_eq_true (fq 77 rfl) : PySem.W.specialIn K (.builtin "object.__class__") "__get__" = some (some (.builtin "getset_descriptor.__get__"))), (of_decide_eq_true (fq 78 rfl) : PySem.W.takesIn K (.builtin "object.__class__") = some true), (of_decide_eq_true (fq 158 rfl) : PySem.W.mroIn K (c_NoName K) (.type "object") = some true)⟩),
    ko_NoName_CallError := ((of_decide_eq_true (fq 159 rfl) : PySem.W.kitOne K (.ref (c_NoName K)) (.ref (c_CallError K)) = some true)),
    ko_NoName_ValueError := ((of_decide_eq_true (fq 160 rfl) : PySem.W.kitOne K (.ref (c_NoName K)) (.type "ValueError") = some true)),
    m_BadOrder := ((PySem.W.mg_of X G (of_decide_eq_true (fq 161 rfl) : PySem.W.nsIn K mainGlobals "BadOrder" = some (some (.ref (c_BadOrder K)))))),
    m_Misfit := ((PySem.W.mg_of X G (of_decide_eq_true (fq 162 rfl) : PySem.W.nsIn K mainGlobals "Misfit" = some (some (.ref (c_Misfit K)))))),
    m_NoChange := ((PySem.W.mg_of X G (of_decide_eq_true (fq 163 rfl) : PySem.W.nsIn K mainGlobals "NoChange" = some (some (.ref (c_NoChange K)))))),
    m_NoDefault := ((PySem.W.mg_of X G (of_decide_eq_true (fq 164 rfl) : PySem.W.nsIn K mainGlobals "NoDefault" = some (some (.ref (c_NoDefault K)))))),
    m_NoRow := ((PySem.W.mg_of X G (of_decide_eq_true (fq 165 rfl) : PySem.W.nsIn K mainGlobals "NoRow" = some (some (.ref (c_NoRow K)))))),
    m_NoText := ((PySem.W.mg_of X G (of_decide_eq_true (fq 166 rfl) : PySem.W.nsIn K mainGlobals "NoText" = some (some (.ref (c_NoText K)))))),
    m_TooMany := ((PySem.W.mg_of X G (of_decide_eq_true (fq 167 rfl) : PySem.W.nsIn K mainGlobals "TooMany" = some (some (.ref (c_TooMany K)))))),
    m_Twice := ((PySem.W.mg_of X G (of_decide_eq_true (fq 168 rfl) : PySem.W.nsIn K mainGlobals "Twice" = some (some (.ref (c_Twice K)))))),
    m_Unknown := ((PySem.W.mg_of X G (of_decide_eq_true (fq 169 rfl) : PySem.W.nsIn K mainGlobals "Unknown" = some (some (.ref (c_Unknown K)))))),
    ko_NoName_Unknown := ((of_decide_eq_true (fq 170 rfl) : PySem.W.kitOne K (.ref (c_NoName K)) (.ref (c_Unknown K)) = some false)),
    ko_NoName_Twice := ((of_decide_eq_true (fq 171 rfl) : PySem.W.kitOne K (.ref (c_NoName K)) (.ref (c_Twice K)) = some false)),
    ko_NoName_TooMany := ((of_decide_eq_true (fq 172 rfl) : PySem.W.kitOne K (.ref (c_NoName K)) (.ref (c_TooMany K)) = some false)),
    ko_NoName_NoText := ((of_decide_eq_true (fq 173 rfl) : PySem.W.kitOne K (.ref (c_NoName K)) (.ref (c_NoText K)) = some false)),
    ko_NoName_NoRow := ((of_decide_eq_true (fq 174 rfl) : PySem.W.kitOne K (.ref (c_NoName K)) (.ref (c_NoRow K)) = some false)),
    ko_NoName_NoDefault := ((of_decide_eq_true (fq 175 rfl) : PySem.W.kitOne K (.ref (c_NoName K)) (.ref (c_NoDefault K)) = some false)),
    ko_NoName_NoChange := ((of_decide_eq_true (fq 176 rfl) : PySem.W.kitOne K (.ref (c_NoName K)) (.ref (c_NoChange K)) = some false)),
    ko_NoName_Misfit := ((of_decide_eq_true (fq 177 rfl) : PySem.W.kitOne K (.ref (c_NoName K)) (.ref (c_Misfit K)) = some false)),
    ko_NoName_BadOrder := ((of_decide_eq_true (fq 178 rfl) : PySem.W.kitOne K (.ref (c_NoName K)) (.ref (c_BadOrder K)) = some false)),
    xm_NoName_NoName := ((PySem.W.exm_ref (of_decide_eq_true (fq 155 rfl) : PySem.W.subIn K (.ref (c_NoName K)) (.type "BaseException") = some true) (fq 156 rfl) (of_decide_eq_true (fq 179 rfl) : PySem.W.typeIn K (.ref (c_NoName K)) = some (.type "type")) (of_decide_eq_true (fq 180 rfl) : PySem.W.subIn K (.ref (c_NoName K)) (.ref (c_NoName K)) = some true))),
    m_NoName := ((PySem.W.mg_of X G (of_decide_eq_true (fq 181 rfl) : PySem.W.nsIn K mainGlobals "NoName" = some (some (.ref (c_NoName K)))))),
    mk_With := (⟨(fq 182 rfl), (of_decide_eq_true (fq 183 rfl) : PySem.W.findIn K (.ref (c_With K)) "__init__" = some (some (.ref (f_With_init K)))), (fq 184 rfl), (fq 185 rfl)⟩),
    mk_Spare := (⟨(fq 186 rfl), (of_decide_eq_true (fq 187 rfl) : PySem.W.findIn K (.ref (c_Spare K)) "__init__" = some (some (.ref (f_Spare_init K)))), (fq 188 rfl), (fq 189 rfl)⟩),
    mk_Without := (⟨(fq 190 rfl), (of_decide_eq_true (fq 191 rfl) : PySem.W.findIn K (.ref (c_Without K)) "__init__" = some (some (.ref (f_Without_init K)))), (fq 192 rfl), (fq 193 rfl)⟩),
    mk_Exchange := (⟨(fq 194 rfl), (of_decide_eq_true (fq 195 rfl) : PySem.W.findIn K (.ref (c_Exchange K)) "__init__" = some (some (.ref (f_Exchange_init K)))), (fq 196 rfl), (fq 197 rfl)⟩),
    na_Without_name := ((of_decide_eq_true (fq 198 rfl) : PySem.W.findIn K (.ref (c_Without K)) "name" = some none)),
    xc_NoName := ((fq 199 rfl)),
    kp_NoName := ((fq 200 rfl)),
    sb_NoName := ((of_decide_eq_true (fq 155 rfl) : PySem.W.subIn K (.ref (c_NoName K)) (.type "BaseException") = some true)),
    ty_NoName := ((of_decide_eq_true (fq 179 rfl) : PySem.W.typeIn K (.ref (c_NoName K)) = some (.type "type"))),
    na_With_name := ((of_decide_eq_true (fq 201 rfl) : PySem.W.findIn K (.ref (c_With K)) "name" = some none)),
    na_With_thing := ((of_decide_eq_true (fq 202 rfl) : PySem.W.findIn K (.ref (c_With K)) "thing" = some none)),
    na_Spare_name := ((of_decide_eq_true (fq 203 rfl) : PySem.W.findIn K (.ref (c_Spare K)) "name" = some none)),
    na_Spare_thing := ((of_decide_eq_true (fq 204 rfl) : PySem.W.findIn K (.ref (c_Spare K)) "thing" = some none)),
    na_Exchange_one := ((of_decide_eq_true (fq 205 rfl) : PySem.W.findIn K (.ref (c_Exchange K)) "one" = some none)),
    na_Exchange_other := ((of_decide_eq_true (fq 206 rfl) : PySem.W.findIn K (.ref (c_Exchange K)) "other" = some none)),
    mk_Ahead := (⟨(fq 207 rfl), (of_decide_eq_true (fq 208 rfl) : PySem.W.findIn K (.ref (c_Ahead K)) "__init__" = some (some (.ref (f_Ahead_init K)))), (fq 209 rfl), (fq 210 rfl)⟩),
    mo_Swallow_o := (⟨(fq 211 rfl), (of_decide_eq_true (fq 212 rfl) : PySem.W.findIn K (.ref (c_Swallow K)) "__init__" = some (some (.builtin "object.__init__"))), (of_decide_eq_true (fq 61 rfl) : PySem.W.mroIn K (c_Swallow K) (.type "object") = some true), (fq 213 rfl)⟩),
    mo_ByPlace_o := (⟨(fq 214 rfl), (of_decide_eq_true (fq 215 rfl) : PySem.W.findIn K (.ref (c_ByPlace K)) "__init__" = some (some (.builtin "object.__init__"))), (of_decide_eq_true (fq 68 rfl) : PySem.W.mroIn K (c_ByPlace K) (.type "object") = some true), (fq 216 rfl)⟩),
    mo_ByName_o := (⟨(fq 217 rfl), (of_decide_eq_true (fq 218 rfl) : PySem.W.findIn K (.ref (c_ByName K)) "__init__" = some (some (.builtin "object.__init__"))), (of_decide_eq_true (fq 75 rfl) : PySem.W.mroIn K (c_ByName K) (.type "object") = some true), (fq 219 rfl)⟩),
    na_Ahead_thing := ((of_decide_eq_true (fq 220 rfl) : PySem.W.findIn K (.ref (c_Ahead K)) "thing" = some none)) }, FunD.bindsA (ps := ["script"]) ((dfn 10 rfl : ∃ fd, FunD K "law" "law" (defArgs s_law) (defBody s_law) (defScope s_law) [] [] (f_law K) fd).choose_spec) fun _ _ _ _ _ _ us hl => match us, hl with | [_], _ => rfl⟩
end Lw
open PySem PySem.W PySem.Calls PyProof.Rows
set_option maxRecDepth 100000 in
set_option maxHeartbeats 0 in
theorem PySem.Challenge.cw_callbinds_k72_covers_refused_holds : PySem.Challenge.rw_callbinds_k72_covers_refused.Holds := by
  w_on; o_law
  refine HandSHeadRun.head_any (r := OpenLaw.row PySem.Challenge.rw_callbinds_k72_covers_refused) (q := view (OpenLaw.row PySem.Challenge.rw_callbinds_k72_covers_refused).prog [38]) (H := Lw.hk) (ob := Lw.ob) (M := 60000) (loose := Lw.loose) (d := HandSHeadRun.topDef (OpenLaw.row PySem.Challenge.rw_callbinds_k72_covers_refused).prog 38) (kwd := []) Lw.ob_eq
    (by kernel_rfl) (fun s => by kernel_rfl) Lw.run (by kernel_rfl) (by kernel_rfl) (by kernel_rfl) (by rfl) (by first | assumption | decide +kernel) (by decide +kernel) ⟨rfl, rfl, rfl, rfl, rfl, by decide +kernel⟩ ?hw ?hc
  case hw => w_witness2
  case hc =>
    refine Dn.walk_w (l := PySem.Challenge.rw_callbinds_k72_covers_refused) (n := 63) (k := 12) (fun w => L2.CX (PySem.Challenge.rw_callbinds_k72_covers_refused).prog w) (x := "script") rfl (by decide) (by kernel_rfl) ⟨rfl, by decide, by decide⟩ (fun _ _ _ _ _ ⟨_, _, _, _, _, _, _, _, _, _, _, _, z⟩ => z) ?F
    intro w mg fa h Y G hmg0
    obtain ⟨K, KX, c⟩ := Y
    have hmg : mg ("law" : PySem.Str) = some (.ref fa) := by
      have e : (HandSHeadRun.topDef (OpenLaw.row PySem.Challenge.rw_callbinds_k72_covers_refused).prog 38).name = ("law" : PySem.Str) := by kernel_rfl
      rw [← e]
      exact hmg0
    obtain ⟨T, hb⟩ := Lw.tx KX G c
    have ea := hmg.symm.trans T.m_law
    cases ea
    exact ⟨K, T.d_law, Lw.spLaw K, KX, fun s u => hb s [u] rfl, fun H a ns hl _ hS => ⟨a, ns, rfl, hS, hl, fun _ => rfl⟩, fun base _ _ => Lw.law_sp T⟩
#print axioms PySem.Challenge.cw_callbinds_k72_covers_refused_holds

