import PyProof.Rows.All
import HandS.ForMost
import HandS.IsInst
import HandS.Wide
import HandS.Flow
import HandS.Deep
import HandS.WrittenGet
import HandS.More
import HandS.Exc
import HandS.WordsExc
import KE.DataEq
import HandS.Head0
import HandS.Head1
import HandS.Head2
import HandS.HeadEnd
import HandS.HeadHook1
import HandS.HeadHook2
import HandS.HeadHook3
import PySem.Challenge.RW_betweentwoclocks_k83_shallow_trees
import KE.KxText
set_option Elab.async false
set_option linter.all false
set_option maxRecDepth 100000
set_option maxHeartbeats 4000000
namespace M
open PySem PySem.Spec PyProof.Rows L2

/-! ### data -/
inductive D where
  | non | bl (b : Bool) | int (i : Int) | str (x : Str) | tup (xs : List D) | lst (xs : List D) | dic (kvs : List (Key × D)) | scr (ns : List Int)

mutual
inductive Rep (K : PySem.W.Frag) (F : Hp) : V → D → Prop
  | non : Rep K F .non .non
  | bl (b : Bool) : Rep K F (.bl b) (.bl b)
  | int (i : Int) : Rep K F (.int i) (.int i)
  | str (x : Str) : Rep K F (.str x) (.str x)
  | tup {a : Addr} {vs : List V} {ds : List D} : SqT K F a vs → RepL K F vs ds → Rep K F (.ref a) (.tup ds)
  | lst {a : Addr} {vs : List V} {ds : List D} : F a = some (.lst vs) → RepL K F vs ds → Rep K F (.ref a) (.lst ds)
  | scr {a : Addr} {ns : List Int} : SqL K F a (ns.map V.int) → Rep K F (.ref a) (.scr ns)
  | dic {a : Addr} {kvs : List (Key × V)} {kds : List (Key × D)} : F a = some (.dK kvs) → RepK K F kvs kds → Rep K F (.ref a) (.dic kds)
inductive RepL (K : PySem.W.Frag) (F : Hp) : List V → List D → Prop
  | nil : RepL K F [] []
  | cons {v : V} {vs : List V} {d : D} {ds : List D} : Rep K F v d → RepL K F vs ds → RepL K F (v :: vs) (d :: ds)
inductive RepK (K : PySem.W.Frag) (F : Hp) : List (Key × V) → List (Key × D) → Prop
  | nil : RepK K F [] []
  | cons {k : Key} {v : V} {vs : List (Key × V)} {d : D} {ds : List (Key × D)} : Rep K F v d → RepK K F vs ds → RepK K F ((k, v) :: vs) ((k, d) :: ds)
end

def Ex (H H' : Hp) : Prop := ∀ a o, H a = some o → H' a = some o
theorem Ex.refl (H : Hp) : Ex H H := fun _ _ h => h
theorem Ex.trans {H H1 H2 : Hp} (a : Ex H H1) (b : Ex H1 H2) : Ex H H2 := fun x o h => b x o (a x o h)
theorem Ex.new {H : Hp} {p : Addr} {o : HO} (h : H p = none) : Ex H (upd H p o) := fun a u e => by
  rw [upd_ne (ne_of_none e h)]
  exact e
theorem Ex.rd {H H' : Hp} {a : Addr} {u : HO} (e : Ex H H') (h : Rd H a u) : Rd H' a u := by
  rcases h with h | ⟨o, h⟩
  · exact Or.inl (e a _ h)
  · exact Or.inr ⟨o, e a _ h⟩
theorem Ex.l {K : PySem.W.Frag} {H H' : Hp} {a : Addr} {xs : List V} (e : Ex H H') (h : SqL K H a xs) : SqL K H' a xs := by
  rcases h with h | h
  · exact Or.inl (e.rd h)
  · exact Or.inr h
theorem Ex.t {K : PySem.W.Frag} {H H' : Hp} {a : Addr} {xs : List V} (e : Ex H H') (h : SqT K H a xs) : SqT K H' a xs := by
  rcases h with h | h
  · exact Or.inl (e.rd h)
  · exact Or.inr h

mutual
theorem Rep.mono {K : PySem.W.Frag} {F F' : Hp} (e : Ex F F') : ∀ {v : V} {d : D}, Rep K F v d → Rep K F' v d
  | _, _, .non => .non
  | _, _, .bl b => .bl b
  | _, _, .int i => .int i
  | _, _, .str x => .str x
  | _, _, .tup h r => .tup (e.t h) (RepL.mono e r)
  | _, _, .lst h r => .lst (e _ _ h) (RepL.mono e r)
  | _, _, .scr h => .scr (e.l h)
  | _, _, .dic h r => .dic (e _ _ h) (RepK.mono e r)
theorem RepL.mono {K : PySem.W.Frag} {F F' : Hp} (e : Ex F F') : ∀ {vs : List V} {ds : List D}, RepL K F vs ds → RepL K F' vs ds
  | _, _, .nil => .nil
  | _, _, .cons h r => .cons (Rep.mono e h) (RepL.mono e r)
theorem RepK.mono {K : PySem.W.Frag} {F F' : Hp} (e : Ex F F') : ∀ {vs : List (Key × V)} {ds : List (Key × D)}, RepK K F vs ds → RepK K F' vs ds
  | _, _, .nil => .nil
  | _, _, .cons h r => .cons (Rep.mono e h) (RepK.mono e r)
end

section
variable {K : PySem.W.Frag} {F : Hp}
theorem RepL.length : ∀ {vs : List V} {ds : List D}, RepL K F vs ds → vs.length = ds.length
  | _, _, .nil => rfl
  | _, _, .cons _ r => by rw [List.length_cons, List.length_cons, RepL.length r]
theorem RepL.get : ∀ {vs : List V} {ds : List D} {i : Nat} {d : D}, RepL K F vs ds → ds[i]? = some d → ∃ v, vs[i]? = some v ∧ Rep K F v d
  | _, _, _, _, .nil, e => by simp at e
  | _, _, 0, _, .cons h _, e => by
    have := Option.some.inj e
    subst this
    exact ⟨_, rfl, h⟩
  | _, _, i + 1, d, .cons _ r, e => RepL.get (i := i) (d := d) r e
theorem RepL.get' : ∀ {vs : List V} {ds : List D} {i : Nat} {v : V}, RepL K F vs ds → vs[i]? = some v → ∃ d, ds[i]? = some d ∧ Rep K F v d
  | _, _, _, _, .nil, e => by simp at e
  | _, _, 0, _, .cons h _, e => by
    have := Option.some.inj e
    subst this
    exact ⟨_, rfl, h⟩
  | _, _, i + 1, d, .cons _ r, e => RepL.get' (i := i) (v := d) r e
theorem RepL.append : ∀ {vs : List V} {ds : List D} {ws : List V} {es : List D}, RepL K F vs ds → RepL K F ws es → RepL K F (vs ++ ws) (ds ++ es)
  | _, _, _, _, .nil, s => s
  | _, _, _, _, .cons h r, s => .cons h (RepL.append r s)
theorem RepL.one {v : V} {d : D} (h : Rep K F v d) : RepL K F [v] [d] := .cons h .nil
theorem RepL.take : ∀ {vs : List V} {ds : List D} (n : Nat), RepL K F vs ds → RepL K F (vs.take n) (ds.take n)
  | _, _, 0, _ => .nil
  | _, _, _ + 1, .nil => .nil
  | _, _, n + 1, .cons h r => .cons h (RepL.take n r)
theorem RepL.drop : ∀ {vs : List V} {ds : List D} (n : Nat), RepL K F vs ds → RepL K F (vs.drop n) (ds.drop n)
  | _, _, 0, r => r
  | _, _, _ + 1, .nil => .nil
  | _, _, n + 1, .cons _ r => RepL.drop n r
theorem RepL.set : ∀ {vs : List V} {ds : List D} {v : V} {d : D} (i : Nat), RepL K F vs ds → Rep K F v d → RepL K F (vs.set i v) (ds.set i d)
  | _, _, _, _, _, .nil, _ => .nil
  | _, _, _, _, 0, .cons _ r, h => .cons h r
  | _, _, _, _, i + 1, .cons g r, h => .cons g (RepL.set i r h)
theorem RepL.dropLast : ∀ {vs : List V} {ds : List D}, RepL K F vs ds → RepL K F vs.dropLast ds.dropLast := fun {vs ds} h => by
  rw [List.dropLast_eq_take, List.dropLast_eq_take, h.length]
  exact h.take _
end

/-! ### slots -/
/-- what is known of a slot: nothing; a value that may be shared; a list or dict of one's own; a value that stands (read alone) -/
inductive Sl where
  | non | fro (d : D) | own (d : D) | ro (d : D)
abbrev En := List Sl
def Sl.d : Sl → D
  | .non => .non
  | .fro d => d
  | .own d => d
  | .ro d => d

structure Exn where
  cls : Str
  fs : List (Str × D)

inductive RS (α : Type) where
  | ok (a : α) (e : En) | ex (x : Exn) (e : En) | bad
inductive Out where
  | nx (e : En) | rt (s : Sl) (e : En) | bk (e : En) | ct (e : En) | ex (x : Exn) (e : En) | bad

@[reducible] def RS.bind {α β : Type} (r : RS α) (f : α → En → RS β) : RS β := match r with
  | .ok a e => f a e
  | .ex x e => .ex x e
  | .bad => .bad

/-- the context of a def's run: the heap and what may be shared at its entry; the slots of its own lists that were handed in -/
structure FC where
  K : PySem.W.Frag
  H0 : Hp
  F0 : Hp
  bor : List (Nat × Addr)
  ca : Str → Addr
  /-- what stands as it stood at the entry; the part of it that may be read -/
  Fr : Hp
  Fro : Hp
def FC.mus (C : FC) : List Addr := C.bor.map (·.2)

/-- a list or dict at a, its parts shareable -/
inductive TopD (K : PySem.W.Frag) (F H : Hp) (a : Addr) : D → Prop
  | lst {vs : List V} {ds : List D} : H a = some (.lst vs) → RepL K F vs ds → TopD K F H a (.lst ds)
  | dic {kvs : List (Key × V)} {kds : List (Key × D)} : H a = some (.dK kvs) → RepK K F kvs kds → TopD K F H a (.dic kds)
theorem TopD.rep {K : PySem.W.Frag} {F H : Hp} {a : Addr} {d : D} (e : Ex F H) (h : TopD K F H a d) : Rep K H (.ref a) d := by
  cases h with
  | lst h r => exact .lst h (r.mono e)
  | dic h r => exact .dic h (r.mono e)
theorem TopD.mono {K : PySem.W.Frag} {F F' H H' : Hp} {a : Addr} {d : D} (e : Ex F F') (k : H' a = H a) (h : TopD K F H a d) : TopD K F' H' a d := by
  cases h with
  | lst h r => exact .lst (k.trans h) (r.mono e)
  | dic h r => exact .dic (k.trans h) (r.mono e)
theorem TopD.some {K : PySem.W.Frag} {F H : Hp} {a : Addr} {d : D} (h : TopD K F H a d) : ∃ o, H a = some o := by
  cases h with
  | lst h r => exact ⟨_, h⟩
  | dic h r => exact ⟨_, h⟩

structure Owned (C : FC) (F H : Hp) (a : Addr) (d : D) : Prop where
  free : F a = none
  mine : C.H0 a = none ∨ a ∈ C.mus
  nfr : C.Fr a = none
  top : TopD C.K F H a d

def SlotOk (C : FC) (F H : Hp) (ov : Option V) : Sl → Prop
  | .non => True
  | .fro d => ∃ v, ov = some v ∧ Rep C.K F v d
  | .own d => ∃ a, ov = some (.ref a) ∧ Owned C F H a d
  | .ro d => ∃ a, ov = some (.ref a) ∧ TopD C.K F C.Fro a d

def isOwn : Sl → Bool
  | .own _ => true
  | _ => false
/-- the address a is one of the own ones -/
def IsOwn (env : En) (σ : L2.St) (a : Addr) : Prop := ∃ (i : Nat) (d : D), env[i]? = some (Sl.own d) ∧ σ[i]? = some (some (V.ref a))

structure Ok (C : FC) (F : Hp) (env : En) (σ : L2.St) (H : Hp) : Prop where
  ex : Ex F H
  fr : Ex C.Fr H
  fro : Ex C.Fro H
  frs : Ex C.Fro C.Fr
  mu : ∀ a ∈ C.mus, C.H0 a ≠ none
  f0 : ∀ a, C.H0 a ≠ none → a ∉ C.mus → F a = C.F0 a
  st : ∀ a, C.H0 a ≠ none → H a ≠ none
  len : env.length = σ.length
  sl : ∀ (i : Nat) (s : Sl), env[i]? = some s → ∃ ov, σ[i]? = some ov ∧ SlotOk C F H ov s
  nd : ∀ (i j : Nat) (d d' : D) (a : Addr), env[i]? = some (.own d) → env[j]? = some (.own d') → σ[i]? = some (some (.ref a)) → σ[j]? = some (some (.ref a)) → i = j
  bor : ∀ p ∈ C.bor, σ[p.1]? = some (some (.ref p.2))

/-- the value v of a result -/
def SlRep (C : FC) (F H : Hp) (env : En) (σ : L2.St) (v : V) : Sl → Prop
  | .non => False
  | .fro d => Rep C.K F v d
  | .own d => ∃ a, v = .ref a ∧ Owned C F H a d ∧ ¬ IsOwn env σ a
  | .ro d => ∃ a, v = .ref a ∧ TopD C.K F C.Fro a d
def XRep (C : FC) (F : Hp) (x : Exn) (cls : Value) (d : Option Addr) : Prop :=
  cls = .ref (C.ca x.cls) ∧ ((x.fs = [] ∧ d = none) ∨ ∃ dd vs, d = some dd ∧ F dd = some (.xd vs) ∧ vs.map (·.1) = x.fs.map (·.1) ∧ RepL C.K F (vs.map (·.2)) (x.fs.map (·.2)))

/-- a value that may be read: its parts may be shared -/
def PRep (C : FC) (F H : Hp) (v : V) (d : D) : Prop := Rep C.K F v d ∨ ∃ a, v = .ref a ∧ TopD C.K F H a d
theorem TopD.at {K : PySem.W.Frag} {F H H' : Hp} {a : Addr} {d : D} (e : Ex H H') (h : TopD K F H a d) : TopD K F H' a d := by
  cases h with
  | lst h r => exact .lst (e _ _ h) r
  | dic h r => exact .dic (e _ _ h) r
theorem PRep.rep {C : FC} {F H : Hp} {v : V} {d : D} (e : Ex F H) (h : PRep C F H v d) : Rep C.K H v d := by
  rcases h with h | ⟨a, rfl, h⟩
  · exact h.mono e
  · exact h.rep e
theorem SlRep.prep {C : FC} {F H : Hp} {env env' : En} {σ : L2.St} {v : V} {s : Sl} (o : Ok C F env σ H) (h : SlRep C F H env' σ v s) : PRep C F H v s.d := by
  cases s with
  | non => exact h.elim
  | fro d => exact .inl h
  | own d =>
    obtain ⟨a, rfl, h, _⟩ := h
    exact .inr ⟨a, rfl, h.top⟩
  | ro d =>
    obtain ⟨a, rfl, h⟩ := h
    exact .inr ⟨a, rfl, h.at o.fro⟩

/-- a reading by a run -/
def tM (C : FC) (W : WX) (m : En → RS Sl) : TE := fun σ H Q => ∃ F env, Ok C F env σ H ∧ match m env with
  | .ok s env' => ∀ v F' H', Ex F F' → Ok C F' env' σ H' → SlRep C F' H' env' σ v s → Q v H'
  | .ex x env' => ∀ cls d F' H', Ok C F' env' σ H' → XRep C F' x cls d → W cls d σ H'
  | .bad => False
/-- a test's -/
def tMT (C : FC) (W : WX) (m : En → RS Bool) : TT := fun σ H Q => ∃ F env, Ok C F env σ H ∧ match m env with
  | .ok b env' => ∀ F' H', Ex F F' → Ok C F' env' σ H' → Q b H'
  | .ex x env' => ∀ cls d F' H', Ok C F' env' σ H' → XRep C F' x cls d → W cls d σ H'
  | .bad => False
/-- what is asked behind a statement's run -/
@[reducible] def ThenS (C : FC) (W : WX) (F : Hp) (D : Ends) (o : Out) : Prop := match o with
  | .nx env' => ∀ F' σ' H', Ex F F' → Ok C F' env' σ' H' → D.nx σ' H'
  | .rt s env' => ∀ v F' σ' H', Ex F F' → Ok C F' env' σ' H' → SlRep C F' H' env' σ' v s → D.rt v H'
  | .bk env' => ∀ F' σ' H', Ex F F' → Ok C F' env' σ' H' → D.bk σ' H'
  | .ct env' => ∀ F' σ' H', Ex F F' → Ok C F' env' σ' H' → D.ct σ' H'
  | .ex x env' => ∀ cls d F' σ' H', Ok C F' env' σ' H' → XRep C F' x cls d → W cls d σ' H'
  | .bad => False
def tMS (C : FC) (W : WX) (m : En → Out) : TS := fun D σ H => ∃ F env, Ok C F env σ H ∧ ThenS C W F D (m env)
theorem ThenS.mono {C : FC} {W : WX} {F F1 : Hp} {D : Ends} {o : Out} (e : Ex F F1) (h : ThenS C W F D o) : ThenS C W F1 D o := by
  cases o with
  | nx env' => exact fun F' σ' H' e1 => h F' σ' H' (e.trans e1)
  | rt s env' => exact fun v F' σ' H' e1 => h v F' σ' H' (e.trans e1)
  | bk env' => exact fun F' σ' H' e1 => h F' σ' H' (e.trans e1)
  | ct env' => exact fun F' σ' H' e1 => h F' σ' H' (e.trans e1)
  | ex x env' => exact h
  | bad => exact h
theorem ThenS.imp {C : FC} {W : WX} {F : Hp} {D D' : Ends} {o : Out} (h : ThenS C W F D o) (i1 : ∀ F' σ H, Ex F F' → D.nx σ H → D'.nx σ H) (i2 : ∀ v H, D.rt v H → D'.rt v H) (i3 : ∀ σ H, D.bk σ H → D'.bk σ H) (i4 : ∀ σ H, D.ct σ H → D'.ct σ H) : ThenS C W F D' o := by
  cases o with
  | nx env' => exact fun F' σ' H' e1 k => i1 F' σ' H' e1 (h F' σ' H' e1 k)
  | rt s env' => exact fun v F' σ' H' e1 k r => i2 v H' (h v F' σ' H' e1 k r)
  | bk env' => exact fun F' σ' H' e1 k => i3 σ' H' (h F' σ' H' e1 k)
  | ct env' => exact fun F' σ' H' e1 k => i4 σ' H' (h F' σ' H' e1 k)
  | ex x env' => exact h
  | bad => exact h

theorem pe_imp {X : Cx} {e : Expr} {t t' : TE} (h : PE X e t) (i : ∀ σ H Q, t' σ H Q → t σ H Q) : PE X e t' := ⟨fun pins s σ H Q I q => h.run pins s σ H Q I (i σ H Q q)⟩
theorem pt_imp {X : Cx} {e : Expr} {t t' : TT} (h : PT X e t) (i : ∀ σ H Q, t' σ H Q → t σ H Q) : PT X e t' := ⟨fun pins s σ H Q I q => h.run pins s σ H Q I (i σ H Q q)⟩
theorem pw_imp {X : Cx} {e : Expr} {t t' : TT} (h : PW X e t) (i : ∀ σ H Q, t' σ H Q → t σ H Q) : PW X e t' := ⟨fun wh pins s σ H Q I q => h.run wh pins s σ H Q I (i σ H Q q)⟩
theorem ps_imp {X : Cx} {e : Stmt} {t t' : TS} (h : PS X e t) (i : ∀ D σ H, t' D σ H → t D σ H) : PS X e t' := ⟨fun pins s σ H D I q => h.run pins s σ H D I (i D σ H q)⟩
theorem pss_imp {X : Cx} {e : List Stmt} {t t' : TS} (h : PSs X e t) (i : ∀ D σ H, t' D σ H → t D σ H) : PSs X e t' := ⟨fun pins s σ H D I q => h.run pins s σ H D I (i D σ H q)⟩
theorem pa_imp {X : Cx} {e : List Expr} {t t' : TA} (h : PA X e t) (i : ∀ σ H Q, t' σ H Q → t σ H Q) : PA X e t' := ⟨fun pos pins s σ H Q I q => h.run pos pins s σ H Q I (i σ H Q q)⟩

/-! ### the heap grows -/
section
variable {C : FC} {F H : Hp} {env : En} {σ : L2.St}
theorem Ok.fresh (o : Ok C F env σ H) {p : Addr} (h : H p = none) : F p = none := by
  cases q : F p with
  | none => rfl
  | some u => rw [o.ex p u q] at h; cases h
theorem Ok.freshFr (o : Ok C F env σ H) {p : Addr} (h : H p = none) : C.Fr p = none := by
  cases q : C.Fr p with
  | none => rfl
  | some u => rw [o.fr p u q] at h; cases h
theorem Ok.nfro (o : Ok C F env σ H) {a : Addr} {d : D} (h : Owned C F H a d) : C.Fro a = none := by
  cases q : C.Fro a with
  | none => rfl
  | some u =>
    have := o.frs a u q
    rw [h.nfr] at this
    cases this
theorem Ok.freshFro (o : Ok C F env σ H) {p : Addr} (h : H p = none) : C.Fro p = none := by
  cases q : C.Fro p with
  | none => rfl
  | some u => rw [o.fro p u q] at h; cases h
/-- a fresh address is not an own one -/
theorem Ok.freshO (o : Ok C F env σ H) {p : Addr} (h : H p = none) : ¬ IsOwn env σ p := fun ⟨i, d, h1, h2⟩ => by
  obtain ⟨ov, e, a, ea, ow⟩ := o.sl i _ h1
  rw [h2] at e
  cases e
  cases ea
  obtain ⟨u, hu⟩ := ow.top.some
  rw [h] at hu
  cases hu
/-- own addresses are mutable or new -/
theorem Ok.own_at (o : Ok C F env σ H) {i : Nat} {d : D} (h : env[i]? = some (.own d)) : ∃ a, σ[i]? = some (some (.ref a)) ∧ Owned C F H a d := by
  obtain ⟨ov, e, a, ea, ow⟩ := o.sl i _ h
  subst ea
  exact ⟨a, e, ow⟩
theorem Ok.h0 (o : Ok C F env σ H) {p : Addr} (h : H p = none) : C.H0 p = none := by
  cases q : C.H0 p with
  | none => rfl
  | some u => exact absurd h (o.st p (by rw [q]; exact Option.some_ne_none u))
end
end M

set_option Elab.async false
set_option linter.all false
set_option maxRecDepth 100000
set_option maxHeartbeats 4000000
namespace M
open PySem PySem.Spec PyProof.Rows L2

section
variable {C : FC} {F H : Hp} {env : En} {σ : L2.St} {a p : Addr} {d : D} {o : HO} {v : V} {s : Sl}

theorem SlotOk.mono {F' H' : Hp} {ov : Option V} (e : Ex F F') (k : ∀ a d, Owned C F H a d → s = .own d → ov = some (.ref a) → F' a = none ∧ H' a = H a) (h : SlotOk C F H ov s) : SlotOk C F' H' ov s := by
  cases s with
  | non => trivial
  | fro d =>
    obtain ⟨v, e1, r⟩ := h
    exact ⟨v, e1, r.mono e⟩
  | own d =>
    obtain ⟨a, e1, r⟩ := h
    obtain ⟨k1, k2⟩ := k a d r rfl e1
    exact ⟨a, e1, k1, r.mine, r.nfr, r.top.mono e k2⟩
  | ro d =>
    obtain ⟨a, e1, r⟩ := h
    exact ⟨a, e1, r.mono e rfl⟩
theorem Ex.upd2 {p : Addr} {o : HO} (e : Ex F H) : Ex (upd F p o) (upd H p o) := fun b u h => by
  by_cases hb : b = p
  · subst hb
    rw [upd_same] at h ⊢
    exact h
  · rw [upd_ne hb] at h ⊢
    exact e b u h
theorem Ex.updR {p : Addr} {o : HO} (e : Ex F H) (h : F p = none) : Ex F (upd H p o) := fun b u hb => by
  rw [upd_ne (ne_of_none hb h)]
  exact e b u hb

/-- a new object that is not shared yet -/
theorem Ok.alloc (k : Ok C F env σ H) (h : H p = none) : Ok C F env σ (upd H p o) where
  ex := k.ex.updR (k.fresh h)
  fr := k.fr.updR (k.freshFr h)
  fro := k.fro.updR (k.freshFro h)
  frs := k.frs
  mu := k.mu
  f0 := k.f0
  st := fun b hb => by
    by_cases hp : b = p
    · subst hp
      rw [upd_same]
      exact Option.some_ne_none _
    · rw [upd_ne hp]
      exact k.st b hb
  len := k.len
  sl := fun i s hs => by
    obtain ⟨ov, e, w⟩ := k.sl i s hs
    refine ⟨ov, e, w.mono (Ex.refl F) fun b d' ow _ _ => ⟨ow.free, upd_ne ?_⟩⟩
    rintro rfl
    obtain ⟨u, hu⟩ := ow.top.some
    rw [h] at hu
    cases hu
  nd := k.nd
  bor := k.bor
/-- a new object, shared from the start -/
theorem Ok.allocF (k : Ok C F env σ H) (h : H p = none) : Ok C (upd F p o) env σ (upd H p o) where
  ex := k.ex.upd2
  fr := k.fr.updR (k.freshFr h)
  fro := k.fro.updR (k.freshFro h)
  frs := k.frs
  mu := k.mu
  f0 := fun b hb hm => by
    rw [upd_ne]
    · exact k.f0 b hb hm
    · rintro rfl
      exact hb (k.h0 h)
  st := (k.alloc (o := o) h).st
  len := k.len
  sl := fun i s hs => by
    obtain ⟨ov, e, w⟩ := k.sl i s hs
    refine ⟨ov, e, w.mono (Ex.new (k.fresh h)) fun b d' ow _ _ => ?_⟩
    have nb : b ≠ p := by
      rintro rfl
      obtain ⟨u, hu⟩ := ow.top.some
      rw [h] at hu
      cases hu
    exact ⟨by rw [upd_ne nb]; exact ow.free, upd_ne nb⟩
  nd := k.nd
  bor := k.bor
/-- a new own object -/
theorem Ok.owned (k : Ok C F env σ H) (h : H p = none) (t : TopD C.K F (upd H p o) p d) : Owned C F (upd H p o) p d := ⟨k.fresh h, .inl (k.h0 h), k.freshFr h, t⟩
theorem Ok.own_res (k : Ok C F env σ H) (h : H p = none) (t : TopD C.K F (upd H p o) p d) : SlRep C F (upd H p o) env σ (.ref p) (.own d) := ⟨p, rfl, k.owned h t, k.freshO h⟩

/-- what was one's own is shared -/
theorem Ok.freeze (k : Ok C F env σ H) (h : Owned C F H a d) (n : ¬ IsOwn env σ a) : ∃ F', Ex F F' ∧ Ok C F' env σ H ∧ Rep C.K F' (.ref a) d := by
  obtain ⟨u, hu⟩ := h.top.some
  have e : Ex F (upd F a u) := Ex.new h.free
  refine ⟨upd F a u, e, ⟨fun b w hb => ?_, k.fr, k.fro, k.frs, k.mu, fun b hb hm => ?_, k.st, k.len, fun i s hs => ?_, k.nd, k.bor⟩, ?_⟩
  · by_cases q : b = a
    · subst q
      rw [upd_same] at hb
      cases hb
      exact hu
    · rw [upd_ne q] at hb
      exact k.ex b w hb
  · rw [upd_ne]
    · exact k.f0 b hb hm
    · rintro rfl
      rcases h.mine with z | z
      · exact hb z
      · exact hm z
  · obtain ⟨ov, e1, w⟩ := k.sl i s hs
    refine ⟨ov, e1, w.mono e fun b d' ow es eo => ⟨?_, rfl⟩⟩
    rw [upd_ne]
    · exact ow.free
    · rintro rfl
      subst es
      subst eo
      exact n ⟨i, d', hs, e1⟩
  · cases h.top with
    | lst h1 r =>
      rw [hu] at h1
      cases h1
      exact .lst upd_same (r.mono e)
    | dic h1 r =>
      rw [hu] at h1
      cases h1
      exact .dic upd_same (r.mono e)

theorem get_set_self {α : Type} {l : List α} {i : Nat} {x y : α} (h : (l.set i x)[i]? = some y) : y = x := by
  by_cases hl : i < l.length
  · rw [List.getElem?_set_self hl] at h
    exact (Option.some.inj h).symm
  · rw [List.getElem?_eq_none (by rw [List.length_set]; omega)] at h
    cases h

/-- a slot is forgotten -/
theorem Ok.drop (k : Ok C F env σ H) (i : Nat) : Ok C F (env.set i .non) σ H := by
  have back : ∀ (j : Nat) (s : Sl), (env.set i .non)[j]? = some s → s = .non ∨ env[j]? = some s := fun j s h => by
    by_cases q : i = j
    · subst q
      exact .inl (get_set_self h)
    · rw [List.getElem?_set_ne q] at h
      exact .inr h
  refine ⟨k.ex, k.fr, k.fro, k.frs, k.mu, k.f0, k.st, by rw [List.length_set]; exact k.len, fun j s hs => ?_, fun j l d1 d2 b h1 h2 h3 h4 => ?_, k.bor⟩
  · rcases back j s hs with rfl | h
    · have hj : j < σ.length := by
        have := (List.getElem?_eq_some_iff.mp hs).1
        rw [List.length_set, k.len] at this
        exact this
      exact ⟨σ[j], List.getElem?_eq_getElem hj, trivial⟩
    · exact k.sl j s h
  · rcases back j _ h1 with z | h1
    · cases z
    · rcases back l _ h2 with z | h2
      · cases z
      · exact k.nd j l d1 d2 b h1 h2 h3 h4
/-- a slot's fact is replaced: the value stands -/
theorem Ok.toFro (k : Ok C F env σ H) {i : Nat} (hv : σ[i]? = some (some v)) (r : Rep C.K F v d) : Ok C F (env.set i (.fro d)) σ H := by
  have back : ∀ (j : Nat) (s : Sl), (env.set i (.fro d))[j]? = some s → (j = i ∧ s = .fro d) ∨ env[j]? = some s := fun j s h => by
    by_cases q : i = j
    · subst q
      exact .inl ⟨rfl, get_set_self h⟩
    · rw [List.getElem?_set_ne q] at h
      exact .inr h
  refine ⟨k.ex, k.fr, k.fro, k.frs, k.mu, k.f0, k.st, by rw [List.length_set]; exact k.len, fun j s hs => ?_, fun j l d1 d2 b h1 h2 h3 h4 => ?_, k.bor⟩
  · rcases back j s hs with ⟨rfl, rfl⟩ | h
    · exact ⟨_, hv, v, rfl, r⟩
    · exact k.sl j s h
  · rcases back j _ h1 with ⟨_, z⟩ | h1
    · cases z
    · rcases back l _ h2 with ⟨_, z⟩ | h2
      · cases z
      · exact k.nd j l d1 d2 b h1 h2 h3 h4
theorem IsOwn.drop {i : Nat} (k : Ok C F env σ H) (h : env[i]? = some (.own d)) (hs : σ[i]? = some (some (.ref a))) : ¬ IsOwn (env.set i .non) σ a := fun ⟨j, d', h1, h2⟩ => by
  by_cases q : i = j
  · subst q
    cases get_set_self h1
  · rw [List.getElem?_set_ne q] at h1
    exact q (k.nd i j d d' a h h1 hs h2)
/-- an own slot is given away -/
theorem Ok.move {i : Nat} (k : Ok C F env σ H) (h : env[i]? = some (.own d)) : ∃ a, σ[i]? = some (some (.ref a)) ∧ Ok C F (env.set i .non) σ H ∧ Owned C F H a d ∧ ¬ IsOwn (env.set i .non) σ a := by
  obtain ⟨a, e, ow⟩ := k.own_at h
  exact ⟨a, e, k.drop i, ow, IsOwn.drop k h e⟩
/-- an own slot is shared from now on -/
theorem Ok.share {i : Nat} (k : Ok C F env σ H) (h : env[i]? = some (.own d)) : ∃ a F', σ[i]? = some (some (.ref a)) ∧ Ex F F' ∧ Ok C F' (env.set i (.fro d)) σ H ∧ Rep C.K F' (.ref a) d := by
  obtain ⟨a, e, k1, ow, n⟩ := k.move h
  obtain ⟨F', e1, k2, r⟩ := k1.freeze ow n
  refine ⟨a, F', e, e1, ?_, r⟩
  have := k2.toFro e r
  rw [List.set_set] at this
  exact this

/-- a name is stored -/
theorem Ok.asg (k : Ok C F env σ H) (i : Nat) (hb : ∀ q ∈ C.bor, q.1 ≠ i) (r : SlRep C F H env σ v s) : Ok C F (env.set i s) (σ.set i (some v)) H := by
  have back : ∀ (j : Nat) (t : Sl), (env.set i s)[j]? = some t → (j = i ∧ t = s ∧ (σ.set i (some v))[j]? = some (some v)) ∨ (i ≠ j ∧ env[j]? = some t ∧ (σ.set i (some v))[j]? = σ[j]?) := fun j t h => by
    by_cases q : i = j
    · subst q
      refine .inl ⟨rfl, get_set_self h, ?_⟩
      have := (List.getElem?_eq_some_iff.mp h).1
      rw [List.length_set, k.len] at this
      rw [List.getElem?_set_self this]
    · rw [List.getElem?_set_ne q] at h
      exact .inr ⟨q, h, List.getElem?_set_ne q⟩
  refine ⟨k.ex, k.fr, k.fro, k.frs, k.mu, k.f0, k.st, by rw [List.length_set, List.length_set]; exact k.len, fun j t hs => ?_, fun j l d1 d2 b h1 h2 h3 h4 => ?_, fun q hq => ?_⟩
  · rcases back j t hs with ⟨rfl, rfl, e⟩ | ⟨q, h, e⟩
    · refine ⟨_, e, ?_⟩
      cases t with
      | non => trivial
      | fro d => exact ⟨v, rfl, r⟩
      | own d =>
        obtain ⟨a, rfl, h, _⟩ := r
        exact ⟨a, rfl, h⟩
      | ro d =>
        obtain ⟨a, rfl, h⟩ := r
        exact ⟨a, rfl, h⟩
    · rw [e]
      exact k.sl j t h
  · rcases back j _ h1 with ⟨rfl, e1, e2⟩ | ⟨q1, g1, e2⟩
    · rcases back l _ h2 with ⟨rfl, _, _⟩ | ⟨q2, g2, e4⟩
      · rfl
      · subst e1
        obtain ⟨a, ev, ow, n⟩ := r
        rw [e2, ev] at h3
        cases h3
        rw [e4] at h4
        exact absurd ⟨l, d2, g2, h4⟩ n
    · rcases back l _ h2 with ⟨rfl, e3, e4⟩ | ⟨q2, g2, e4⟩
      · subst e3
        obtain ⟨a, ev, ow, n⟩ := r
        rw [e4, ev] at h4
        cases h4
        rw [e2] at h3
        exact absurd ⟨j, d1, g1, h3⟩ n
      · rw [e2] at h3
        rw [e4] at h4
        exact k.nd j l d1 d2 b g1 g2 h3 h4
  · rw [List.getElem?_set_ne (fun z => hb q hq z.symm)]
    exact k.bor q hq

/-- an own object is changed -/
theorem Ok.write {i : Nat} {d' : D} {o' : HO} (k : Ok C F env σ H) (h : env[i]? = some (.own d)) (hs : σ[i]? = some (some (.ref a))) (t : TopD C.K F (upd H a o') a d') : Ok C F (env.set i (.own d')) σ (upd H a o') := by
  obtain ⟨a', e, ow⟩ := k.own_at h
  rw [hs] at e
  cases e
  have back : ∀ (j : Nat) (s : Sl), (env.set i (.own d'))[j]? = some s → (j = i ∧ s = .own d') ∨ (i ≠ j ∧ env[j]? = some s) := fun j s h => by
    by_cases q : i = j
    · subst q
      exact .inl ⟨rfl, get_set_self h⟩
    · rw [List.getElem?_set_ne q] at h
      exact .inr ⟨q, h⟩
  refine ⟨k.ex.updR ow.free, k.fr.updR ow.nfr, k.fro.updR (k.nfro ow), k.frs, k.mu, k.f0, fun b hb => ?_, by rw [List.length_set]; exact k.len, fun j s hj => ?_, fun j l d1 d2 b h1 h2 h3 h4 => ?_, k.bor⟩
  · by_cases hp : b = a
    · subst hp
      rw [upd_same]
      exact Option.some_ne_none _
    · rw [upd_ne hp]
      exact k.st b hb
  · rcases back j s hj with ⟨rfl, rfl⟩ | ⟨q, g⟩
    · exact ⟨_, hs, a, rfl, ow.free, ow.mine, ow.nfr, t⟩
    · obtain ⟨ov, e1, w⟩ := k.sl j s g
      refine ⟨ov, e1, w.mono (Ex.refl F) fun b d2 ow2 es eo => ⟨ow2.free, upd_ne ?_⟩⟩
      rintro rfl
      subst es
      subst eo
      exact q (k.nd i j d d2 b h g hs e1)
  · rcases back j _ h1 with ⟨rfl, _⟩ | ⟨q1, g1⟩
    · rcases back l _ h2 with ⟨rfl, _⟩ | ⟨q2, g2⟩
      · rfl
      · exact k.nd j l d d2 b h g2 h3 h4
    · rcases back l _ h2 with ⟨rfl, _⟩ | ⟨q2, g2⟩
      · exact k.nd j l d1 d b g1 h h3 h4
      · exact k.nd j l d1 d2 b g1 g2 h3 h4
end

/-! ### operands -/
inductive Opd where
  | val (m : En → RS Sl)
  | pk (i : Nat)
  | bor (i : Nat)
def oT (C : FC) (W : WX) : Opd → TE
  | .val m => tM C W m
  | .pk i => tVar i
  | .bor i => tVar i
def oTA (C : FC) (W : WX) : List Opd → TA
  | [] => tNil
  | o :: r => tCons (oT C W o) (oTA C W r)
/-- a result that is used: no longer one's own -/
@[reducible] def Sl.sh : Sl → Sl
  | .own d => .fro d
  | s => s
/-- .. that only looked at stands -/
@[reducible] def Sl.lk : Sl → Sl
  | .own d => .ro d
  | s => s
@[reducible] def ops : List Opd → En → RS (List Sl)
  | [], e => .ok [] e
  | .val m :: r, e => (m e).bind fun s e1 => (ops r e1).bind fun ss e2 => .ok (s.sh :: ss) e2
  | .pk i :: r, e => match e.getD i .non with
    | .non => .bad
    | _ => (ops r e).bind fun ss e2 => match e2.getD i .non with
      | .non => .bad
      | s => .ok (s.lk :: ss) e2
  | .bor i :: r, e => match e.getD i .non with
    | .own _ => (ops r e).bind fun ss e2 => match e2.getD i .non with
      | .own d => .ok (.own d :: ss) e2
      | _ => .bad
    | _ => .bad

/-- what an operand is, behind all of them -/
def ARep (C : FC) (F H : Hp) (v : V) : Sl → Prop
  | .non => False
  | .fro d => Rep C.K F v d
  | .own _ => False
  | .ro d => ∃ a, v = .ref a ∧ TopD C.K F H a d
/-- .. of an evaluated one: what is only looked at stands as at the entry -/
def ARepV (C : FC) (F : Hp) (v : V) : Sl → Prop
  | .non => False
  | .fro d => Rep C.K F v d
  | .own _ => False
  | .ro d => ∃ a, v = .ref a ∧ TopD C.K F C.Fro a d
theorem ARepV.arep {C : FC} {F H : Hp} {env : En} {σ : L2.St} {v : V} {s : Sl} (k : Ok C F env σ H) (h : ARepV C F v s) : ARep C F H v s := by
  cases s with
  | non => exact h
  | fro d => exact h
  | own d => exact h
  | ro d =>
    obtain ⟨a, rfl, h⟩ := h
    exact ⟨a, rfl, h.at k.fro⟩
inductive ARepO (C : FC) (F H : Hp) (env : En) (σ : L2.St) : List Opd → List V → List Sl → Prop
  | nil : ARepO C F H env σ [] [] []
  | val {m : En → RS Sl} {os : List Opd} {v : V} {vs : List V} {s : Sl} {ss : List Sl} : ARepV C F v s → ARepO C F H env σ os vs ss → ARepO C F H env σ (.val m :: os) (v :: vs) (s :: ss)
  | pk {i : Nat} {os : List Opd} {v : V} {vs : List V} {s : Sl} {ss : List Sl} : ARep C F H v s → σ[i]? = some (some v) → (∃ t, env[i]? = some t ∧ s = t.lk) → ARepO C F H env σ os vs ss → ARepO C F H env σ (.pk i :: os) (v :: vs) (s :: ss)
  | bor {i : Nat} {os : List Opd} {v : V} {vs : List V} {d : D} {ss : List Sl} : σ[i]? = some (some v) → env[i]? = some (.own d) → ARepO C F H env σ os vs ss → ARepO C F H env σ (.bor i :: os) (v :: vs) (.own d :: ss)
theorem ARep.prep {C : FC} {F H : Hp} {v : V} {s : Sl} (h : ARep C F H v s) : PRep C F H v s.d := by
  cases s with
  | non => exact h.elim
  | fro d => exact .inl h
  | own d => exact h.elim
  | ro d => exact .inr h
/-- a used result stays what it is -/
theorem SlRep.used {C : FC} {F H : Hp} {env : En} {σ : L2.St} {v : V} {s : Sl} (k : Ok C F env σ H) (h : SlRep C F H env σ v s) : ∃ F', Ex F F' ∧ Ok C F' env σ H ∧ SlRep C F' H env σ v s.sh := by
  cases s with
  | non => exact h.elim
  | fro d => exact ⟨F, Ex.refl F, k, h⟩
  | own d =>
    obtain ⟨a, rfl, ow, n⟩ := h
    exact k.freeze ow n
  | ro d => exact ⟨F, Ex.refl F, k, h⟩
theorem SlRep.later {C : FC} {F F' H : Hp} {env : En} {σ : L2.St} {v : V} {s : Sl} (e : Ex F F') (h : SlRep C F H env σ v s.sh) : ARepV C F' v s.sh := by
  cases s with
  | non => exact h.elim
  | fro d => exact Rep.mono e h
  | own d => exact Rep.mono e h
  | ro d =>
    obtain ⟨a, rfl, h⟩ := h
    exact ⟨a, rfl, h.mono e rfl⟩
theorem getD_of {env : En} {i : Nat} {s : Sl} (h : env.getD i .non = s) (n : s ≠ .non) : env[i]? = some s := by
  rw [List.getD_eq_getElem?_getD] at h
  cases q : env[i]? with
  | none => rw [q] at h; exact absurd h.symm n
  | some t => rw [q] at h; exact congrArg some h
/-- what is asked behind an evaluation -/
@[reducible] def Then {α : Type} (C : FC) (W : WX) (F : Hp) (σ : L2.St) (r : RS α) (P : α → En → Hp → Hp → Prop) : Prop := match r with
  | .ok a e => ∀ F' H', Ex F F' → Ok C F' e σ H' → P a e F' H'
  | .ex x e => ∀ cls d F' H', Ok C F' e σ H' → XRep C F' x cls d → W cls d σ H'
  | .bad => False
theorem Then.bind {α β : Type} {C : FC} {W : WX} {F : Hp} {σ : L2.St} {r : RS α} {f : α → En → RS β} {P : β → En → Hp → Hp → Prop} (h : Then C W F σ (r.bind f) P) :
    Then C W F σ r fun a e F' H' => Then C W F' σ (f a e) P := by
  cases r with
  | ok a e =>
    intro F' H' e1 k
    have h' : Then C W F σ (f a e) P := h
    show Then C W F' σ (f a e) P
    cases q : f a e with
    | ok b e2 =>
      rw [q] at h'
      exact fun F2 H2 e2 k2 => h' F2 H2 (e1.trans e2) k2
    | ex x e2 =>
      rw [q] at h'
      exact h'
    | bad =>
      rw [q] at h'
      exact h'
  | ex x e => exact h
  | bad => exact h
theorem Then.imp {α : Type} {C : FC} {W : WX} {F : Hp} {σ : L2.St} {r : RS α} {P P' : α → En → Hp → Hp → Prop} (h : Then C W F σ r P) (i : ∀ a e F' H', Ex F F' → Ok C F' e σ H' → P a e F' H' → P' a e F' H') : Then C W F σ r P' := by
  cases r with
  | ok a e => exact fun F' H' e1 k => i a e F' H' e1 k (h F' H' e1 k)
  | ex x e => exact h
  | bad => exact h
theorem tM_then {C : FC} {W : WX} {m : En → RS Sl} {F H : Hp} {env : En} {σ : L2.St} {Q : VK} (k : Ok C F env σ H) (h : Then C W F σ (m env) fun s e F' H' => ∀ v, SlRep C F' H' e σ v s → Q v H') : tM C W m σ H Q := by
  refine ⟨F, env, k, ?_⟩
  cases q : m env with
  | ok s e =>
    rw [q] at h
    exact fun v F' H' e1 k1 r => h F' H' e1 k1 v r
  | ex x e =>
    rw [q] at h
    exact h
  | bad =>
    rw [q] at h
    exact h
theorem tM_out {C : FC} {W : WX} {m : En → RS Sl} {σ : L2.St} {H : Hp} {Q : VK} (h : tM C W m σ H Q) : ∃ F env, Ok C F env σ H ∧ Then C W F σ (m env) fun s e F' H' => ∀ v, SlRep C F' H' e σ v s → Q v H' := by
  obtain ⟨F, env, k, h⟩ := h
  refine ⟨F, env, k, ?_⟩
  cases q : m env with
  | ok s e =>
    rw [q] at h
    exact fun F' H' e1 k1 v r => h v F' H' e1 k1 r
  | ex x e =>
    rw [q] at h
    exact h
  | bad =>
    rw [q] at h
    exact h
theorem Ok.has {C : FC} {F H : Hp} {env : En} {σ : L2.St} {i : Nat} (k : Ok C F env σ H) (hn : env.getD i .non ≠ .non) : ∃ v, σ[i]? = some (some v) := by
  have hs := getD_of (env := env) (i := i) rfl hn
  obtain ⟨ov, e4, w⟩ := k.sl i _ hs
  cases q : env.getD i .non with
  | non => exact absurd q hn
  | fro d => rw [q] at w; obtain ⟨v, e, _⟩ := w; exact ⟨v, e ▸ e4⟩
  | own d => rw [q] at w; obtain ⟨v, e, _⟩ := w; exact ⟨_, e ▸ e4⟩
  | ro d => rw [q] at w; obtain ⟨v, e, _⟩ := w; exact ⟨_, e ▸ e4⟩
/-- the value that a slot holds, looked at -/
theorem Ok.look {C : FC} {F H : Hp} {env : En} {σ : L2.St} {i : Nat} {v : V} (k : Ok C F env σ H) (hn : env.getD i .non ≠ .non) (hv : σ[i]? = some (some v)) : ARep C F H v (env.getD i .non).lk := by
  have hs := getD_of (env := env) (i := i) rfl hn
  obtain ⟨ov, e4, w⟩ := k.sl i _ hs
  rw [hv] at e4
  cases e4
  cases q : env.getD i .non with
  | non => exact absurd q hn
  | fro d => rw [q] at w; obtain ⟨v', e, r⟩ := w; cases e; exact r
  | own d => rw [q] at w; obtain ⟨a, e, r⟩ := w; cases e; exact ⟨a, rfl, r.top⟩
  | ro d => rw [q] at w; obtain ⟨a, e, r⟩ := w; cases e; exact ⟨a, rfl, r.at k.fro⟩
theorem ops_run {C : FC} {W : WX} : ∀ (os : List Opd) {F H : Hp} {env : En} {σ : L2.St} {Q : List V → Hp → Prop}, Ok C F env σ H →
    Then C W F σ (ops os env) (fun ss e F' H' => ∀ vs, ARepO C F' H' e σ os vs ss → Q vs H') → oTA C W os σ H Q
  | [], F, H, env, σ, Q, k, h => h F H (Ex.refl F) k [] .nil
  | .val m :: r, F, H, env, σ, Q, k, h => by
    show tM C W m σ H fun x H1 => oTA C W r σ H1 fun xs H2 => Q (x :: xs) H2
    have h' : Then C W F σ ((m env).bind fun s e1 => (ops r e1).bind fun ss e2 => .ok (s.sh :: ss) e2) (fun ss e F' H' => ∀ vs, ARepO C F' H' e σ (.val m :: r) vs ss → Q vs H') := h
    refine tM_then k (h'.bind.imp fun s e F1 H1 _ k1 g v r1 => ?_)
    obtain ⟨F1', e', k1', r1'⟩ := r1.used k1
    have g' : Then C W F1' σ ((ops r e).bind fun ss e2 => .ok (s.sh :: ss) e2) (fun ss e F' H' => ∀ vs, ARepO C F' H' e σ (.val m :: r) vs ss → Q vs H') := by
      have g2 := g
      revert g2
      generalize ((ops r e).bind fun ss e2 => RS.ok (s.sh :: ss) e2) = z
      intro g2
      cases z with
      | ok a e2 => exact fun F2 H2 e3 k2 => g2 F2 H2 (e'.trans e3) k2
      | ex x e2 => exact g2
      | bad => exact g2
    refine ops_run r k1' (g'.bind.imp fun ss e2 F2 H2 e3 k2 q vs ra => q F2 H2 (Ex.refl F2) k2 (v :: vs) (.val (r1'.later e3) ra))
  | .pk i :: r, F, H, env, σ, Q, k, h => by
    show ∃ v, σ[i]? = some (some v) ∧ oTA C W r σ H fun xs H2 => Q (v :: xs) H2
    have hn : env.getD i .non ≠ .non := fun q => by
      simp only [ops, q] at h
      exact h
    have h' : Then C W F σ ((ops r env).bind fun ss e2 => match e2.getD i .non with | .non => .bad | s => .ok (s.lk :: ss) e2) (fun ss e F' H' => ∀ vs, ARepO C F' H' e σ (.pk i :: r) vs ss → Q vs H') := by
      revert h
      show Then C W F σ (match env.getD i .non with | .non => .bad | _ => (ops r env).bind fun ss e2 => match e2.getD i .non with | .non => .bad | s => .ok (s.lk :: ss) e2) _ → _
      cases q : env.getD i .non with
      | non => exact absurd q hn
      | fro d => exact id
      | own d => exact id
      | ro d => exact id
    obtain ⟨v, hv⟩ := k.has hn
    refine ⟨v, hv, ops_run r k (h'.bind.imp fun ss e2 F2 H2 e3 k2 q vs ra => ?_)⟩
    have hn2 : e2.getD i .non ≠ .non := fun z => by
      rw [z] at q
      exact q
    have lk := k2.look hn2 hv
    revert q lk
    cases z : e2.getD i .non with
    | non => exact absurd z hn2
    | fro d => exact fun q lk => q F2 H2 (Ex.refl F2) k2 (v :: vs) (.pk lk hv ⟨_, getD_of z (by intro y; cases y), rfl⟩ ra)
    | own d => exact fun q lk => q F2 H2 (Ex.refl F2) k2 (v :: vs) (.pk lk hv ⟨_, getD_of z (by intro y; cases y), rfl⟩ ra)
    | ro d => exact fun q lk => q F2 H2 (Ex.refl F2) k2 (v :: vs) (.pk lk hv ⟨_, getD_of z (by intro y; cases y), rfl⟩ ra)
  | .bor i :: r, F, H, env, σ, Q, k, h => by
    show ∃ v, σ[i]? = some (some v) ∧ oTA C W r σ H fun xs H2 => Q (v :: xs) H2
    have h' : Then C W F σ (match env.getD i .non with
      | .own _ => (ops r env).bind fun ss e2 => match e2.getD i .non with
        | .own d => .ok (.own d :: ss) e2
        | _ => .bad
      | _ => .bad) (fun ss e F' H' => ∀ vs, ARepO C F' H' e σ (.bor i :: r) vs ss → Q vs H') := h
    cases q : env.getD i .non with
    | own d0 =>
      rw [q] at h'
      obtain ⟨a, ha, _⟩ := k.own_at (getD_of q (by intro z; cases z))
      refine ⟨_, ha, ops_run r k (h'.bind.imp fun ss e2 F2 H2 e3 k2 q2 vs ra => ?_)⟩
      cases z : e2.getD i .non with
      | own d =>
        rw [z] at q2
        exact q2 F2 H2 (Ex.refl F2) k2 _ (.bor ha (getD_of z (by intro z; cases z)) ra)
      | non => rw [z] at q2; exact q2.elim
      | fro d => rw [z] at q2; exact q2.elim
      | ro d => rw [z] at q2; exact q2.elim
    | non => rw [q] at h'; exact h'.elim
    | fro d => rw [q] at h'; exact h'.elim
    | ro d => rw [q] at h'; exact h'.elim
end M

set_option Elab.async false
set_option linter.all false
set_option maxRecDepth 100000
set_option maxHeartbeats 4000000
namespace M
open PySem PySem.Spec PyProof.Rows L2

/-! ### operations by values -/
@[reducible] def Cont (C : FC) (F : Hp) (env : En) (σ : L2.St) (s : Sl) (Q : VK) : Prop := ∀ v F' H', Ex F F' → Ok C F' env σ H' → SlRep C F' H' env σ v s → Q v H'
inductive PRepL (C : FC) (F H : Hp) : List V → List D → Prop
  | nil : PRepL C F H [] []
  | cons {v : V} {vs : List V} {d : D} {ds : List D} : PRep C F H v d → PRepL C F H vs ds → PRepL C F H (v :: vs) (d :: ds)
theorem ARepO.prep {C : FC} {F H : Hp} {env : En} {σ : L2.St} (k : Ok C F env σ H) : ∀ {os : List Opd} {vs : List V} {ss : List Sl}, ARepO C F H env σ os vs ss → PRepL C F H vs (ss.map Sl.d)
  | _, _, _, .nil => .nil
  | _, _, _, .val h r => .cons (h.arep k).prep (r.prep k)
  | _, _, _, .pk h _ _ r => .cons h.prep (r.prep k)
  | _, _, _, .bor h1 h2 r => by
    obtain ⟨a, ha, ow⟩ := k.own_at h2
    rw [h1] at ha
    cases ha
    exact .cons (.inr ⟨a, rfl, ow.top⟩) (r.prep k)
def rDN (C : FC) (f : List D → Option Sl) : List V → Hp → VK → Prop := fun vs H Q => ∃ F env σ ds s, Ok C F env σ H ∧ PRepL C F H vs ds ∧ f ds = some s ∧ Cont C F env σ s Q
def rD2 (C : FC) (f : List D → Option Sl) : R2 := fun x y H Q => rDN C f [x, y] H Q
def mOp (os : List Opd) (f : List D → Option Sl) : En → RS Sl := fun e => (ops os e).bind fun ss e' => match f (ss.map Sl.d) with
  | some s => .ok s e'
  | none => .bad
theorem mOp_run {C : FC} {W : WX} {os : List Opd} {f : List D → Option Sl} {σ : L2.St} {H : Hp} {Q : VK} (h : tM C W (mOp os f) σ H Q) : oTA C W os σ H fun vs H1 => rDN C f vs H1 Q := by
  obtain ⟨F, env, k, h⟩ := tM_out h
  refine ops_run os k ((show Then C W F σ ((ops os env).bind _) _ from h).bind.imp fun ss e F' H' e1 k1 g vs ra => ?_)
  cases q : f (ss.map Sl.d) with
  | none =>
    rw [q] at g
    exact g.elim
  | some s =>
    rw [q] at g
    exact ⟨F', e, σ, _, s, k1, ra.prep k1, q, fun v F2 H2 e2 k2 r => g F2 H2 e2 k2 v r⟩

section
variable {X : Cx} {C : FC} {W : WX} {e a b : Expr} {es : List Expr} {pos : Pos} {A B : Opd} {os : List Opd} {f : List D → Option Sl}
theorem g_pk {i : Nat} (h : PE X e (tVar i)) : PE X e (oT C W (.pk i)) := h
theorem g_val {m : En → RS Sl} (h : PE X e (tM C W m)) : PE X e (oT C W (.val m)) := h
theorem ga_nil : PA X [] (oTA C W []) := pa_nil
theorem ga_cons (ha : PE X e (oT C W A)) (hr : PA X es (oTA C W os)) (hs : starEach (e :: es) X.env = (false, eval e X.env) :: starEach es X.env := by rfl) : PA X (e :: es) (oTA C W (A :: os)) := pa_cons ha hr hs

/-! names and constants -/
def mCon (d : D) : En → RS Sl := fun e => .ok (.fro d) e
theorem g_con {v : V} {d : D} (h : PE X e (tC v)) (r : ∀ F, Rep C.K F v d) : PE X e (tM C W (mCon d)) := pe_imp h fun σ H Q q => by
  obtain ⟨F, env, k, q⟩ := q
  exact q v F H (Ex.refl F) k (r F)
theorem g_int {i : Int} {j} : PE X (.Constant (.int i) j pos) (tM C W (mCon (.int i))) := g_con pe_int fun _ => .int i
theorem g_str {x : Str} {j} : PE X (.Constant (.str x) j pos) (tM C W (mCon (.str x))) := g_con pe_str fun _ => .str x
theorem g_bl {x : Bool} {j} : PE X (.Constant (.bool x) j pos) (tM C W (mCon (.bl x))) := g_con pe_bl fun _ => .bl x
theorem g_non {j} : PE X (.Constant .none j pos) (tM C W (mCon .non)) := g_con pe_non fun _ => .non
/-- a name's value: from now on shared -/
def mVar (i : Nat) : En → RS Sl := fun e => match e.getD i .non with
  | .non => .bad
  | .fro d => .ok (.fro d) e
  | .own d => .ok (.fro d) (e.set i (.fro d))
  | .ro d => .ok (.ro d) e
theorem g_var {i : Nat} (h : PE X e (tVar i)) : PE X e (tM C W (mVar i)) := pe_imp h fun σ H Q q => by
  obtain ⟨F, env, k, q⟩ := q
  have hn : env.getD i .non ≠ .non := fun z => by
    simp only [mVar, z] at q
  obtain ⟨v, hv⟩ := k.has hn
  refine ⟨v, hv, ?_⟩
  have lk := k.look hn hv
  revert q lk
  unfold mVar
  cases z : env.getD i .non with
  | non => exact absurd z hn
  | fro d => exact fun q lk => q v F H (Ex.refl F) k lk
  | own d =>
    intro q lk
    obtain ⟨a, F', h1, h2, h3, h4⟩ := k.share (getD_of z (by intro y; cases y))
    rw [hv] at h1
    cases h1
    exact q _ F' H h2 h3 h4
  | ro d => exact fun q lk => q v F H (Ex.refl F) k (by
      obtain ⟨ov, e4, a, e5, r5⟩ := k.sl i _ (getD_of z (by intro y; cases y))
      rw [hv, e5] at e4
      cases e4
      exact ⟨a, rfl, r5⟩)
/-- a name's value, the name not read again -/
def mMov (i : Nat) : En → RS Sl := fun e => match e.getD i .non with
  | .non => .bad
  | .fro d => .ok (.fro d) e
  | .own d => .ok (.own d) (e.set i .non)
  | .ro d => .ok (.ro d) e
theorem g_mov {i : Nat} (h : PE X e (tVar i)) : PE X e (tM C W (mMov i)) := pe_imp h fun σ H Q q => by
  obtain ⟨F, env, k, q⟩ := q
  have hn : env.getD i .non ≠ .non := fun z => by
    simp only [mMov, z] at q
  obtain ⟨v, hv⟩ := k.has hn
  refine ⟨v, hv, ?_⟩
  have lk := k.look hn hv
  revert q lk
  unfold mMov
  cases z : env.getD i .non with
  | non => exact absurd z hn
  | fro d => exact fun q lk => q v F H (Ex.refl F) k lk
  | own d =>
    intro q lk
    obtain ⟨a, h1, h2, h3, h4⟩ := k.move (getD_of z (by intro y; cases y))
    rw [hv] at h1
    cases h1
    exact q _ F H (Ex.refl F) h2 ⟨a, rfl, h3, h4⟩
  | ro d => exact fun q lk => q v F H (Ex.refl F) k (by
      obtain ⟨ov, e4, a, e5, r5⟩ := k.sl i _ (getD_of z (by intro y; cases y))
      rw [hv, e5] at e4
      cases e4
      exact ⟨a, rfl, r5⟩)

/-! operators -/
theorem g_bin {op : Operator} (ho : OpR X (binaryOp op) (rD2 C f)) (ha : PE X a (oT C W A)) (hb : PE X b (oT C W B)) : PE X (.BinOp a op b pos) (tM C W (mOp [A, B] f)) := pe_imp (pe_op ho ha hb) fun _ _ _ q => mOp_run q
theorem g_cmp {op : CmpOp} (ho : OpR X (compareOp op) (rD2 C f)) (ha : PE X a (oT C W A)) (hb : PE X b (oT C W B)) (hm : behindInMarks op b = false) : PE X (.Compare a [op] [b] pos) (tM C W (mOp [A, B] f)) := pe_imp (pe_cmpR ho ha hb hm) fun _ _ _ q => mOp_run q
theorem g_ix (ho : IxR X (rD2 C f)) (ha : PE X a (oT C W A)) (hb : PE X b (oT C W B)) (hp : PlainIx b) : PE X (.Subscript a b pos) (tM C W (mOp [A, B] f)) := pe_imp (pe_ix ho ha hb hp) fun _ _ _ q => mOp_run q
def rD1 (C : FC) (f : List D → Option Sl) : V → Hp → VK → Prop := fun x H Q => rDN C f [x] H Q
theorem g_un {op : UnaryOp} (ho : UnR X (unaryOp op) (rD1 C f)) (ha : PE X a (oT C W A)) : PE X (.UnaryOp op a pos) (tM C W (mOp [A] f)) := pe_imp (pe_un ho ha) fun _ _ _ q => mOp_run q
theorem g_callB {x : Str} {p : Pos} {id : String} (hc : CallR X (.builtin id) (rDN C f)) (hg : Gl X x) (hm : X.mg x = none) (hv : bootBuiltins x = some (.builtin id)) (ha : PA X (e :: es) (oTA C W os)) (hn : x ≠ "__name__" := by decide) (hdb : (x == ("__debug__" : Str)) = false := by decide)
    (he : starEach (e :: es) X.env = (false, eval e X.env) :: starEach es X.env := by rfl) (hpl : (backTo pos (starEach es X.env)).any (·.1) = false := by rfl) : PE X (.Call (.Name x p) (e :: es) [] pos) (tM C W (mOp os f)) :=
  pe_imp (pe_callB hc hg hm hv ha hn hdb he hpl) fun _ _ _ q => mOp_run q
theorem g_callTy {x : Str} {p : Pos} {T : String} (hc : CallR X (.type T) (rDN C f)) (hg : Gl X x) (hm : X.mg x = none) (hv : bootBuiltins x = some (.type T)) (ha : PA X (e :: es) (oTA C W os)) (hn : x ≠ "__name__" := by decide) (hdb : (x == ("__debug__" : Str)) = false := by decide)
    (he : starEach (e :: es) X.env = (false, eval e X.env) :: starEach es X.env := by rfl) (hpl : (backTo pos (starEach es X.env)).any (·.1) = false := by rfl) : PE X (.Call (.Name x p) (e :: es) [] pos) (tM C W (mOp os f)) :=
  pe_imp (pe_callTy hc hg hm hv ha hn hdb he hpl) fun _ _ _ q => mOp_run q
end
end M

set_option Elab.async false
set_option linter.all false
set_option maxRecDepth 100000
set_option maxHeartbeats 4000000
namespace M
open PySem PySem.Spec PyProof.Rows L2

/-! ### data for == -/
mutual
def D.toP : D → PyData
  | .non => .none
  | .bl b => .bool b
  | .int i => .int i
  | .str x => .str x
  | .tup xs => .tuple (toPs xs)
  | .lst xs => .list (toPs xs)
  | .dic _ => .dict []
  | .scr ns => .list (ns.map .int)
def toPs : List D → List PyData
  | [] => []
  | x :: r => x.toP :: toPs r
end
def eqv (a b : D) : Bool := PyData.eqv a.toP b.toP
theorem ints_dp {K : PySem.W.Frag} {H : Hp} : ∀ ns : List Int, DpAll K H (ns.map V.int) (ns.map PyData.int)
  | [] => .nil
  | n :: r => .cons (.int n) (ints_dp r)
mutual
theorem rep_dp {K : PySem.W.Frag} {H : Hp} : ∀ {v : V} {d : D}, Rep K H v d → d.toP.plain = true → Dp K H v d.toP
  | _, _, .non, _ => .non
  | _, _, .bl b, _ => .bl b
  | _, _, .int i, _ => .int i
  | _, _, .str x, _ => .str x
  | _, _, .tup h r, p => .tup h (rep_dps r (by simpa only [D.toP, PyData.plain] using p))
  | _, _, .lst h r, p => .lst (.inl (.inl h)) (rep_dps r (by simpa only [D.toP, PyData.plain] using p))
  | _, _, .dic h r, p => by
    simp [D.toP, PyData.plain] at p
  | _, _, .scr (ns := ns) h, _ => .lst h (ints_dp ns)
theorem rep_dps {K : PySem.W.Frag} {H : Hp} : ∀ {vs : List V} {ds : List D}, RepL K H vs ds → PyData.plainAll (toPs ds) = true → DpAll K H vs (toPs ds)
  | _, _, .nil, _ => .nil
  | _, _, .cons h r, p => by
    have p' : (_ && _) = true := p
    rw [Bool.and_eq_true] at p'
    exact .cons (rep_dp h p'.1) (rep_dps r p'.2)
end
/-- == of data without dicts; one side of a depth below 200 -/
def eqD (neg : Bool) : List D → Option Sl
  | [a, b] => if a.toP.plain = true ∧ b.toP.plain = true ∧ min a.toP.depth b.toP.depth < 200 then some (.fro (.bl (if neg then !eqv a b else eqv a b))) else none
  | _ => none

section
variable {X : Cx} {C : FC}
theorem rDN_two {f : List D → Option Sl} {x y : V} {H : Hp} {Q : VK} (h : rD2 C f x y H Q) : ∃ F env σ a b s, Ok C F env σ H ∧ PRep C F H x a ∧ PRep C F H y b ∧ f [a, b] = some s ∧ Cont C F env σ s Q := by
  obtain ⟨F, env, σ, ds, s, k, r, e, q⟩ := h
  cases r with
  | cons h1 r =>
    cases r with
    | cons h2 r =>
      cases r
      exact ⟨F, env, σ, _, _, s, k, h1, h2, e, q⟩
theorem rDN_one {f : List D → Option Sl} {x : V} {H : Hp} {Q : VK} (h : rDN C f [x] H Q) : ∃ F env σ a s, Ok C F env σ H ∧ PRep C F H x a ∧ f [a] = some s ∧ Cont C F env σ s Q := by
  obtain ⟨F, env, σ, ds, s, k, r, e, q⟩ := h
  cases r with
  | cons h1 r =>
    cases r
    exact ⟨F, env, σ, _, s, k, h1, e, q⟩
theorem Cont.sc {d : D} {F H : Hp} {env : En} {σ : L2.St} {Q : VK} (k : Ok C F env σ H) (q : Cont C F env σ (.fro d) Q) {v : V} (r : Rep C.K F v d) : Q v H := q v F H (Ex.refl F) k r

/-! ### == and != -/
theorem op_eqM (hK : C.K = X.K) (hu : X.A.units + 200 < cLine) : OpR X (compareOp .Eq) (rD2 C (eqD false)) := by
  intro pins s σ H x y v u Q I rx ry h
  obtain ⟨F, env, σ', a, b, s', k, r1, r2, e, q⟩ := rDN_two h
  simp only [eqD] at e
  split at e
  · rename_i hc
    cases e
    obtain ⟨as, d1⟩ := Dp.reads I a.toP x v (rep_dp (hK ▸ r1.rep k.ex) hc.1) rx
    obtain ⟨bs, d2⟩ := Dp.reads I b.toP y u (rep_dp (hK ▸ r2.rep k.ex) hc.2.1) ry
    exact SeqAt.eq_plain d1 d2 hc.1 hc.2.1 (by have := hc.2.2; omega) ⟨.bl _, H, I, rfl, q.sc k (.bl _)⟩
  · cases e
theorem op_neM (hK : C.K = X.K) (hu : X.A.units + 200 < cLine) : OpR X (compareOp .NotEq) (rD2 C (eqD true)) := by
  intro pins s σ H x y v u Q I rx ry h
  obtain ⟨F, env, σ', a, b, s', k, r1, r2, e, q⟩ := rDN_two h
  simp only [eqD] at e
  split at e
  · rename_i hc
    cases e
    obtain ⟨as, d1⟩ := Dp.reads I a.toP x v (rep_dp (hK ▸ r1.rep k.ex) hc.1) rx
    obtain ⟨bs, d2⟩ := Dp.reads I b.toP y u (rep_dp (hK ▸ r2.rep k.ex) hc.2.1) ry
    exact SeqAt.ne_plain d1 d2 hc.1 hc.2.1 (by have := hc.2.2; omega) ⟨.bl _, H, I, rfl, q.sc k (.bl _)⟩
  · cases e

/-! ### reading sequences -/
theorem PRep.tup {F H : Hp} {v : V} {ds : List D} (e : Ex F H) (h : PRep C F H v (.tup ds)) : ∃ a vs, v = .ref a ∧ SqT C.K H a vs ∧ RepL C.K F vs ds := by
  rcases h with h | ⟨a, rfl, h⟩
  · cases h with
    | tup h r => exact ⟨_, _, rfl, e.t h, r⟩
  · cases h
theorem PRep.lst {F H : Hp} {v : V} {ds : List D} (e : Ex F H) (h : PRep C F H v (.lst ds)) : ∃ a vs, v = .ref a ∧ H a = some (.lst vs) ∧ RepL C.K F vs ds := by
  rcases h with h | ⟨a, rfl, h⟩
  · cases h with
    | lst h r => exact ⟨_, _, rfl, e _ _ h, r⟩
  · cases h with
    | lst h r => exact ⟨_, _, rfl, h, r⟩
theorem PRep.dic {F H : Hp} {v : V} {ds : List (Key × D)} (e : Ex F H) (h : PRep C F H v (.dic ds)) : ∃ a vs, v = .ref a ∧ H a = some (.dK vs) ∧ RepK C.K F vs ds := by
  rcases h with h | ⟨a, rfl, h⟩
  · cases h with
    | dic h r => exact ⟨_, _, rfl, e _ _ h, r⟩
  · cases h with
    | dic h r => exact ⟨_, _, rfl, h, r⟩
theorem PRep.scr {F H : Hp} {v : V} {ns : List Int} (e : Ex F H) (h : PRep C F H v (.scr ns)) : ∃ a, v = .ref a ∧ SqL C.K H a (ns.map V.int) := by
  rcases h with h | ⟨a, rfl, h⟩
  · cases h with
    | scr h => exact ⟨_, rfl, e.l h⟩
  · cases h
theorem PRep.int {F H : Hp} {v : V} {i : Int} (h : PRep C F H v (.int i)) : v = .int i := by
  rcases h with h | ⟨a, rfl, h⟩
  · cases h
    rfl
  · cases h
theorem PRep.str {F H : Hp} {v : V} {x : Str} (h : PRep C F H v (.str x)) : v = .str x := by
  rcases h with h | ⟨a, rfl, h⟩
  · cases h
    rfl
  · cases h
theorem PRep.bl {F H : Hp} {v : V} {x : Bool} (h : PRep C F H v (.bl x)) : v = .bl x := by
  rcases h with h | ⟨a, rfl, h⟩
  · cases h
    rfl
  · cases h
theorem PRep.non {F H : Hp} {v : V} (h : PRep C F H v .non) : v = .non := by
  rcases h with h | ⟨a, rfl, h⟩
  · cases h
    rfl
  · cases h
/-- a new list of one's own -/
theorem Cont.newL {F H : Hp} {env : En} {σ : L2.St} {ds : List D} {vs : List V} {Q : VK} (k : Ok C F env σ H) (q : Cont C F env σ (.own (.lst ds)) Q) (r : RepL C.K F vs ds) {p : Addr} (hp : H p = none) : Q (.ref p) (upd H p (.lst vs)) :=
  q (.ref p) F _ (Ex.refl F) (k.alloc hp) (k.own_res hp (.lst upd_same r))
/-- a new tuple -/
theorem Cont.newT {F H : Hp} {env : En} {σ : L2.St} {ds : List D} {vs : List V} {Q : VK} (k : Ok C F env σ H) (q : Cont C F env σ (.fro (.tup ds)) Q) (r : RepL C.K F vs ds) {p : Addr} (hp : H p = none) : Q (.ref p) (upd H p (.tup vs)) :=
  q (.ref p) (upd F p (.tup vs)) _ (Ex.new (k.fresh hp)) (k.allocF hp) (.tup (.inl (.inl upd_same)) (r.mono (Ex.new (k.fresh hp))))

/-! ### + - * // % ** -/
def addD : List D → Option Sl
  | [.int a, .int b] => some (.fro (.int (a + b)))
  | [.int a, .bl b] => some (.fro (.int (a + b2i b)))
  | [.str a, .str b] => if a.length + b.length ≤ 16777216 then some (.fro (.str (a ++ b))) else none
  | [.lst a, .lst b] => if a.length + b.length ≤ 16777216 then some (.own (.lst (a ++ b))) else none
  | _ => none
theorem op_addM : OpR X (binaryOp .Add) (rD2 C addD) := by
  intro pins s σ H x y v u Q I rx ry h
  obtain ⟨F, env, σ', a, b, s', k, r1, r2, e, q⟩ := rDN_two h
  unfold addD at e
  split at e
  · rename_i i j he
    cases he; cases e
    rw [r1.int] at rx
    rw [r2.int] at ry
    exact op_add pins s σ H _ _ v u Q I rx ry ⟨i, j, rfl, rfl, q.sc k (.int _)⟩
  · rename_i i j he
    cases he; cases e
    rw [r1.int] at rx
    rw [r2.bl] at ry
    exact op_add_ib pins s σ H _ _ v u Q I rx ry ⟨i, j, rfl, rfl, q.sc k (.int _)⟩
  · rename_i i j he
    cases he
    split at e
    · rename_i hl
      cases e
      rw [r1.str] at rx
      rw [r2.str] at ry
      exact op_add_str pins s σ H _ _ v u Q I rx ry ⟨i, j, rfl, rfl, by rw [sizeLine_eq]; exact hl, q.sc k (.str _)⟩
    · cases e
  · rename_i i j he
    cases he
    split at e
    · rename_i hl
      cases e
      obtain ⟨a1, vs, rfl, h1, m1⟩ := r1.lst k.ex
      obtain ⟨a2, ws, rfl, h2, m2⟩ := r2.lst k.ex
      exact op_cat pins s σ H _ _ v u Q I rx ry ⟨a1, a2, vs, ws, rfl, rfl, h1, h2, by rw [sizeLine_eq, m1.length, m2.length]; exact hl, fun p hp => q.newL k (m1.append m2) hp⟩
    · cases e
  · cases e
def intD2 (g : Int → Int → Option Int) : List D → Option Sl
  | [.int a, .int b] => (g a b).map fun r => .fro (.int r)
  | _ => none
theorem intD2_out {g : Int → Int → Option Int} {x y : V} {H : Hp} {Q : VK} (h : rD2 C (intD2 g) x y H Q) : ∃ i j r, x = .int i ∧ y = .int j ∧ g i j = some r ∧ Q (.int r) H := by
  obtain ⟨F, env, σ', a, b, s', k, r1, r2, e, q⟩ := rDN_two h
  unfold intD2 at e
  split at e
  · rename_i i j he
    cases he
    cases hg : g i j with
    | none => rw [hg] at e; cases e
    | some r =>
      rw [hg] at e
      cases e
      exact ⟨i, j, r, r1.int, r2.int, hg, q.sc k (.int _)⟩
  · cases e
def subD : List D → Option Sl := intD2 fun a b => some (a - b)
def mulD : List D → Option Sl := intD2 fun a b => if (-18446744073709551616 < a ∧ a < 18446744073709551616) ∨ (-18446744073709551616 < b ∧ b < 18446744073709551616) then some (a * b) else none
def fdivD : List D → Option Sl := intD2 fun a b => if b ≠ 0 ∧ b.natAbs < 1073741824 then some (a.fdiv b) else none
def modD : List D → Option Sl := intD2 fun a b => if b ≠ 0 then some (a.fmod b) else none
def powD : List D → Option Sl := intD2 fun a b => if 0 ≤ b ∧ b ≤ 1000000 ∧ a.natAbs < 18446744073709551616 then some (a ^ b.toNat) else none
theorem op_subM : OpR X (binaryOp .Sub) (rD2 C subD) := by
  intro pins s σ H x y v u Q I rx ry h
  obtain ⟨i, j, r, rfl, rfl, e, q⟩ := intD2_out h
  cases e
  exact op_sub pins s σ H _ _ v u Q I rx ry ⟨i, j, rfl, rfl, q⟩
theorem op_mulM : OpR X (binaryOp .Mult) (rD2 C mulD) := by
  intro pins s σ H x y v u Q I rx ry h
  obtain ⟨i, j, r, rfl, rfl, e, q⟩ := intD2_out h
  split at e
  · rename_i hc
    cases e
    exact op_mul pins s σ H _ _ v u Q I rx ry ⟨i, j, rfl, rfl, hc, q⟩
  · cases e
theorem op_fdivM : OpR X (binaryOp .FloorDiv) (rD2 C fdivD) := by
  intro pins s σ H x y v u Q I rx ry h
  obtain ⟨i, j, r, rfl, rfl, e, q⟩ := intD2_out h
  split at e
  · rename_i hc
    cases e
    exact op_fdivN pins s σ H _ _ v u Q I rx ry ⟨i, j, rfl, rfl, hc, q⟩
  · cases e
theorem op_modM : OpR X (binaryOp .Mod) (rD2 C modD) := by
  intro pins s σ H x y v u Q I rx ry h
  obtain ⟨i, j, r, rfl, rfl, e, q⟩ := intD2_out h
  split at e
  · rename_i hc
    cases e
    exact op_modN pins s σ H _ _ v u Q I rx ry ⟨i, j, rfl, rfl, hc, q⟩
  · cases e
theorem op_powM : OpR X (binaryOp .Pow) (rD2 C powD) := by
  intro pins s σ H x y v u Q I rx ry h
  obtain ⟨i, j, r, rfl, rfl, e, q⟩ := intD2_out h
  split at e
  · rename_i hc
    cases e
    exact op_pow pins s σ H _ _ v u Q I rx ry ⟨i, j, rfl, rfl, hc, q⟩
  · cases e

/-! ### order -/
def cmpD (p : Int → Int → Bool) : List D → Option Sl
  | [.int a, .int b] => some (.fro (.bl (p a b)))
  | _ => none
theorem cmpD_out {p : Int → Int → Bool} {x y : V} {H : Hp} {Q : VK} (h : rD2 C (cmpD p) x y H Q) : ∃ i j, x = .int i ∧ y = .int j ∧ Q (.bl (p i j)) H := by
  obtain ⟨F, env, σ', a, b, s', k, r1, r2, e, q⟩ := rDN_two h
  unfold cmpD at e
  split at e
  · rename_i i j he
    cases he; cases e
    exact ⟨i, j, r1.int, r2.int, q.sc k (.bl _)⟩
  · cases e
def ltD := cmpD fun i j => decide (i < j)
def leD := cmpD fun i j => decide (i ≤ j)
def gtD := cmpD fun i j => decide (j < i)
def geD := cmpD fun i j => decide (j ≤ i)
theorem op_ltM : OpR X (compareOp .Lt) (rD2 C ltD) := fun pins s σ H x y v u Q I rx ry h => by
  obtain ⟨i, j, rfl, rfl, q⟩ := cmpD_out h
  exact op_lt pins s σ H _ _ v u Q I rx ry ⟨i, j, rfl, rfl, q⟩
theorem op_leM : OpR X (compareOp .LtE) (rD2 C leD) := fun pins s σ H x y v u Q I rx ry h => by
  obtain ⟨i, j, rfl, rfl, q⟩ := cmpD_out h
  exact op_le pins s σ H _ _ v u Q I rx ry ⟨i, j, rfl, rfl, q⟩
theorem op_gtM : OpR X (compareOp .Gt) (rD2 C gtD) := fun pins s σ H x y v u Q I rx ry h => by
  obtain ⟨i, j, rfl, rfl, q⟩ := cmpD_out h
  exact op_gt pins s σ H _ _ v u Q I rx ry ⟨i, j, rfl, rfl, q⟩
theorem op_geM : OpR X (compareOp .GtE) (rD2 C geD) := fun pins s σ H x y v u Q I rx ry h => by
  obtain ⟨i, j, rfl, rfl, q⟩ := cmpD_out h
  exact op_ge pins s σ H _ _ v u Q I rx ry ⟨i, j, rfl, rfl, q⟩
def negD : List D → Option Sl
  | [.int a] => some (.fro (.int (-a)))
  | _ => none
theorem un_negM : UnR X (unaryOp .USub) (rD1 C negD) := fun pins s σ H x v Q I rx h => by
  obtain ⟨F, env, σ', a, s', k, r1, e, q⟩ := rDN_one h
  unfold negD at e
  split at e
  · rename_i i he
    cases he; cases e
    rw [r1.int] at rx
    exact un_neg pins s σ H _ v Q I rx ⟨i, rfl, q.sc k (.int _)⟩
  · cases e
end
end M

set_option Elab.async false
set_option linter.all false
set_option maxRecDepth 100000
set_option maxHeartbeats 4000000
namespace M
open PySem PySem.Spec PyProof.Rows L2

theorem pe_or {X : Cx} {e : Expr} {t u : TE} (h1 : PE X e t) (h2 : PE X e u) : PE X e (fun σ H Q => t σ H Q ∨ u σ H Q) := ⟨fun pins s σ H Q I q => q.elim (h1.run pins s σ H Q I) (h2.run pins s σ H Q I)⟩

/-! ### keys -/
def keyD : D → Option Key
  | .int i => some (.inl i)
  | .str x => some (.inr x)
  | _ => none
def dget (kds : List (Key × D)) (k : Key) : Option D := (kds.find? fun kv => decide (kv.1 = k)).map (·.2)
def dput (kds : List (Key × D)) (k : Key) (d : D) : List (Key × D) :=
  if (kds.any fun kv => decide (kv.1 = k)) = true then kds.map (fun kv => if kv.1 = k then (kv.1, d) else kv) else kds ++ [(k, d)]
def ddrop (kds : List (Key × D)) (k : Key) : List (Key × D) := kds.filter fun kv => decide (kv.1 ≠ k)
section
variable {K : PySem.W.Frag} {F : Hp}
theorem RepK.get : ∀ {kvs : List (Key × V)} {kds : List (Key × D)} {k : Key}, RepK K F kvs kds → (∀ d, dget kds k = some d → ∃ v, valV kvs k = some v ∧ Rep K F v d) ∧ (dget kds k = none → valV kvs k = none)
  | _, _, k, .nil => ⟨(fun d h => nomatch h), fun _ => rfl⟩
  | _, _, k, .cons (k := k') (v := v) (vs := vs) (d := d) (ds := ds) h r => by
    by_cases e : k' = k
    · refine ⟨fun d' hd => ⟨v, valV_pos e, ?_⟩, fun hd => ?_⟩
      · have : dget ((k', d) :: ds) k = some d := by simp [dget, List.find?_cons, e]
        rw [this] at hd
        cases hd
        exact h
      · have : dget ((k', d) :: ds) k = some d := by simp [dget, List.find?_cons, e]
        rw [this] at hd
        cases hd
    · have e1 : dget ((k', d) :: ds) k = dget ds k := by simp [dget, List.find?_cons, e]
      have e2 : valV ((k', v) :: vs) k = valV vs k := valV_neg e
      rw [e1, e2]
      exact RepK.get r
theorem RepK.any {k : Key} : ∀ {kvs : List (Key × V)} {kds : List (Key × D)}, RepK K F kvs kds → (kvs.any fun kv => decide (kv.1 = k)) = (kds.any fun kv => decide (kv.1 = k))
  | _, _, .nil => rfl
  | _, _, .cons h r => by rw [List.any_cons, List.any_cons, RepK.any r]
theorem RepK.length : ∀ {kvs : List (Key × V)} {kds : List (Key × D)}, RepK K F kvs kds → kvs.length = kds.length
  | _, _, .nil => rfl
  | _, _, .cons h r => by rw [List.length_cons, List.length_cons, RepK.length r]
theorem RepK.append : ∀ {kvs : List (Key × V)} {kds : List (Key × D)} {kws : List (Key × V)} {kes : List (Key × D)}, RepK K F kvs kds → RepK K F kws kes → RepK K F (kvs ++ kws) (kds ++ kes)
  | _, _, _, _, .nil, s => s
  | _, _, _, _, .cons h r, s => .cons h (RepK.append r s)
theorem RepK.upd {k : Key} {v : V} {d : D} (h : Rep K F v d) : ∀ {kvs : List (Key × V)} {kds : List (Key × D)}, RepK K F kvs kds → RepK K F (kvs.map fun kv => if kv.1 = k then (kv.1, v) else kv) (kds.map fun kv => if kv.1 = k then (kv.1, d) else kv)
  | _, _, .nil => .nil
  | _, _, .cons (k := k') g r => by
    rw [List.map_cons, List.map_cons]
    by_cases e : k' = k
    · rw [if_pos e, if_pos e]
      exact .cons h (RepK.upd h r)
    · rw [if_neg e, if_neg e]
      exact .cons g (RepK.upd h r)
theorem RepK.put {k : Key} {v : V} {d : D} {kvs : List (Key × V)} {kds : List (Key × D)} (r : RepK K F kvs kds) (h : Rep K F v d) : RepK K F (putK kvs k v) (dput kds k d) := by
  unfold putK dput
  rw [r.any]
  split
  · exact RepK.upd h r
  · exact r.append (.cons h .nil)
theorem RepK.drop {k : Key} : ∀ {kvs : List (Key × V)} {kds : List (Key × D)}, RepK K F kvs kds → RepK K F (dropK kvs k) (ddrop kds k)
  | _, _, .nil => .nil
  | _, _, .cons (k := k') g r => by
    unfold dropK ddrop
    rw [List.filter_cons, List.filter_cons]
    by_cases e : k' = k
    · rw [if_neg (by simp [e]), if_neg (by simp [e])]
      exact RepK.drop r
    · rw [if_pos (by simp [e]), if_pos (by simp [e])]
      exact .cons g (RepK.drop r)
end
theorem keyD_v {C : FC} {F H : Hp} {v : V} {d : D} {k : Key} (h : PRep C F H v d) (e : keyD d = some k) : v = kV k := by
  cases d with
  | int i => cases e; exact h.int
  | str x => cases e; exact h.str
  | _ => cases e

/-! ### subscripts -/
theorem mOp_out {C : FC} {W : WX} {os : List Opd} {f : List D → Option Sl} {σ : L2.St} {H : Hp} {Q : VK} (h : tM C W (mOp os f) σ H Q) :
    ∃ F env, Ok C F env σ H ∧ Then C W F σ (ops os env) (fun ss e F' H' => ∃ s, f (ss.map Sl.d) = some s ∧ Cont C F' e σ s Q) := by
  obtain ⟨F, env, k, h⟩ := tM_out h
  refine ⟨F, env, k, (show Then C W F σ ((ops os env).bind _) _ from h).bind.imp fun ss e F' H' e1 k1 g => ?_⟩
  cases q : f (ss.map Sl.d) with
  | none =>
    rw [q] at g
    exact g.elim
  | some s =>
    rw [q] at g
    exact ⟨s, rfl, fun v F2 H2 e2 k2 r => g F2 H2 e2 k2 v r⟩
def ixD : List D → Option Sl
  | [.tup ds, .int i] => (atI ds i).map .fro
  | [.lst ds, .int i] => (atI ds i).map .fro
  | [.scr ns, .int i] => (atI ns i).map fun n => .fro (.int n)
  | [.str x, .int i] => if x.length ≤ 16777216 then (atI x.cps.toList i).map fun c => .fro (.str ⟨#[c]⟩) else none
  | [.dic kds, k] => (keyD k).bind fun k => (dget kds k).map .fro
  | _ => none
theorem atI_rep {K : PySem.W.Frag} {F : Hp} {vs : List V} {ds : List D} {i : Int} {d : D} (r : RepL K F vs ds) (h : atI ds i = some d) : ∃ v, atI vs i = some v ∧ Rep K F v d := by
  unfold atI at h ⊢
  rw [r.length]
  cases e : ixN ds.length i with
  | none => rw [e] at h; cases h
  | some j =>
    rw [e] at h
    exact r.get h
section
variable {X : Cx} {C : FC} {W : WX} {e a b : Expr} {es : List Expr} {pos : Pos} {A B : Opd} {os : List Opd}
theorem g_idx (hK : C.K = X.K) (hu : X.A.units + 200 < cLine) (ha : PE X a (oT C W A)) (hb : PE X b (oT C W B)) (hp : PlainIx b) (hn : NoSl b) : PE X (.Subscript a b pos) (tM C W (mOp [A, B] ixD)) :=
  pe_imp (pe_or (pe_ix ix_seq ha hb hp) (pe_dget (by omega) ha hb hn)) fun σ H Q q => by
    -- the operands' run is the same for both readings: decide by what they are
    obtain ⟨F, env, k, h2⟩ := mOp_out q
    have hd : (∃ kds kd, ∀ ss e', ops [A, B] env = .ok ss e' → ss.map Sl.d = [.dic kds, kd]) ∨ (∀ ss e', ops [A, B] env = .ok ss e' → ∀ kds kd, ss.map Sl.d ≠ [.dic kds, kd]) := by
      cases z : ops [A, B] env with
      | ok ss e' =>
        by_cases y : ∃ kds kd, ss.map Sl.d = [.dic kds, kd]
        · obtain ⟨kds, kd, y⟩ := y
          exact .inl ⟨kds, kd, fun _ _ w => by cases w; exact y⟩
        · exact .inr fun _ _ w kds kd w2 => by cases w; exact y ⟨kds, kd, w2⟩
      | ex x e' => exact .inr fun _ _ w => by cases w
      | bad => exact .inr fun _ _ w => by cases w
    rcases hd with ⟨kds, kd, hd⟩ | hd
    · refine .inr ?_
      show oTA C W [A, B] σ H fun vs H1 => match vs with | [x, y] => ∃ a v, x = .ref a ∧ DGet H1 a y (some v) ∧ Q v H1 | _ => False
      refine ops_run [A, B] k ?_
      cases z : ops [A, B] env with
      | bad => rw [z] at h2; exact h2
      | ex x e' => rw [z] at h2; exact h2
      | ok ss e' =>
        rw [z] at h2
        intro F' H' e1 k1 vs ra
        obtain ⟨s, hf, g⟩ := h2 F' H' e1 k1
        have hs := hd ss e' z
        have pr := ra.prep k1
        rw [hs] at hf pr
        cases pr with
        | cons p1 pr =>
          cases pr with
          | cons p2 pr =>
            cases pr
            obtain ⟨ad, kvs, rfl, hH, rk⟩ := p1.dic k1.ex
            cases hk : keyD kd with
            | none => simp [ixD, hk] at hf
            | some kk =>
              cases hg : dget kds kk with
              | none => simp [ixD, hk, hg] at hf
              | some d =>
                simp [ixD, hk, hg] at hf
                subst hf
                obtain ⟨v, hv, rv⟩ := rk.get.1 d hg
                refine ⟨ad, v, rfl, ?_, g v F' H' (Ex.refl F') k1 rv⟩
                rw [← hv, keyD_v p2 hk]
                exact DGet.k hH
    · refine .inl ?_
      show oTA C W [A, B] σ H fun vs H1 => match vs with | [x, y] => rIx X.K x y H1 Q | _ => False
      refine ops_run [A, B] k ?_
      cases z : ops [A, B] env with
      | bad => rw [z] at h2; exact h2
      | ex x e' => rw [z] at h2; exact h2
      | ok ss e' =>
        rw [z] at h2
        intro F' H' e1 k1 vs ra
        obtain ⟨s, hf, g⟩ := h2 F' H' e1 k1
        have pr := ra.prep k1
        have nd := hd ss e' z
        generalize hs : ss.map Sl.d = ds at hf pr nd
        · unfold ixD at hf
          split at hf
          · rename_i es i
            cases pr with
            | cons p1 pr =>
              cases pr with
              | cons p2 pr =>
                cases pr
                cases hi : atI es i with
                | none => rw [hi] at hf; cases hf
                | some d =>
                  rw [hi] at hf
                  cases hf
                  obtain ⟨aa, vs, rfl, hH, rr⟩ := p1.tup k1.ex
                  obtain ⟨v, hv, rv⟩ := atI_rep rr hi
                  exact .inr (.inl ⟨aa, vs, i, v, rfl, p2.int, hK ▸ hH, hv, g v F' H' (Ex.refl F') k1 rv⟩)
          · rename_i es i
            cases pr with
            | cons p1 pr =>
              cases pr with
              | cons p2 pr =>
                cases pr
                cases hi : atI es i with
                | none => rw [hi] at hf; cases hf
                | some d =>
                  rw [hi] at hf
                  cases hf
                  obtain ⟨aa, vs, rfl, hH, rr⟩ := p1.lst k1.ex
                  obtain ⟨v, hv, rv⟩ := atI_rep rr hi
                  exact .inl ⟨aa, vs, i, v, rfl, p2.int, .inl (.inl hH), hv, g v F' H' (Ex.refl F') k1 rv⟩
          · rename_i ns i
            cases pr with
            | cons p1 pr =>
              cases pr with
              | cons p2 pr =>
                cases pr
                cases hi : atI ns i with
                | none => rw [hi] at hf; cases hf
                | some n =>
                  rw [hi] at hf
                  cases hf
                  obtain ⟨aa, rfl, hH⟩ := p1.scr k1.ex
                  have hv : atI (ns.map V.int) i = some (.int n) := by
                    unfold atI at hi ⊢
                    rw [List.length_map]
                    cases e3 : ixN ns.length i with
                    | none => rw [e3] at hi; cases hi
                    | some j =>
                      rw [e3] at hi
                      have hi' : ns[j]? = some n := hi
                      show (ns.map V.int)[j]? = some (.int n)
                      rw [List.getElem?_map, hi'] <;> rfl
                  exact .inl ⟨aa, _, i, _, rfl, p2.int, hK ▸ hH, hv, g _ F' H' (Ex.refl F') k1 (.int n)⟩
          · rename_i x i
            cases pr with
            | cons p1 pr =>
              cases pr with
              | cons p2 pr =>
                cases pr
                split at hf
                · rename_i hl
                  cases hi : atI x.cps.toList i with
                  | none => rw [hi] at hf; cases hf
                  | some c =>
                    rw [hi] at hf
                    cases hf
                    exact .inr (.inr ⟨x, i, c, p1.str, p2.int, by rw [sizeLine_eq]; exact hl, hi, g _ F' H' (Ex.refl F') k1 (.str _)⟩)
                · cases hf
          · rename_i kds kd
            exact absurd rfl (nd kds kd)
          · cases hf
end
end M

set_option Elab.async false
set_option linter.all false
set_option maxRecDepth 100000
set_option maxHeartbeats 4000000
namespace M
open PySem PySem.Spec PyProof.Rows L2

/-! ### slices -/
def cutL {α : Type} (xs : List α) (lo hi : Option Int) : List α := (xs.drop (HT.sIx xs.length 0 lo)).take (HT.sIx xs.length xs.length hi - HT.sIx xs.length 0 lo)
def sliceD (a : D) (lo hi : Option Int) : Option Sl := match a with
  | .lst ds => some (.own (.lst (cutL ds lo hi)))
  | .str x => if x.length ≤ 16777216 then some (.fro (.str (cutS x lo hi))) else none
  | .tup ds => if HT.sIx ds.length 0 lo = 0 ∧ HT.sIx ds.length ds.length hi = ds.length then none else some (.fro (.tup (cutL ds lo hi)))
  | _ => none
def sl00 : List D → Option Sl
  | [a] => sliceD a none none
  | _ => none
def sl10 : List D → Option Sl
  | [a, .int i] => sliceD a (some i) none
  | _ => none
def sl01 : List D → Option Sl
  | [a, .int j] => sliceD a none (some j)
  | _ => none
def sl11 : List D → Option Sl
  | [a, .int i, .int j] => sliceD a (some i) (some j)
  | _ => none
def mInt (m : En → RS Sl) : En → RS Sl := fun e => (m e).bind fun s e' => match s with
  | .fro (.int i) => .ok (.fro (.int i)) e'
  | _ => .bad
theorem tM_mono {C : FC} {W : WX} {m : En → RS Sl} {σ : L2.St} {H : Hp} {Q Q' : VK} (i : ∀ v H', Q v H' → Q' v H') (h : tM C W m σ H Q) : tM C W m σ H Q' := by
  obtain ⟨F, env, k, h⟩ := tM_out h
  exact tM_then k (h.imp fun s e F' H' _ _ g v r => i v H' (g v r))
theorem oT_mono {C : FC} {W : WX} {o : Opd} {σ : L2.St} {H : Hp} {Q Q' : VK} (i : ∀ v H', Q v H' → Q' v H') (h : oT C W o σ H Q) : oT C W o σ H Q' := by
  cases o with
  | val m => exact tM_mono i h
  | pk j =>
    obtain ⟨v, hv, q⟩ := h
    exact ⟨v, hv, i v H q⟩
  | bor j =>
    obtain ⟨v, hv, q⟩ := h
    exact ⟨v, hv, i v H q⟩
theorem tM_int {C : FC} {W : WX} {m : En → RS Sl} {σ : L2.St} {H : Hp} {Q : VK} (h : tM C W (mInt m) σ H Q) : tM C W m σ H fun y H' => ∃ i, y = .int i ∧ Q y H' := by
  obtain ⟨F, env, k, h⟩ := tM_out h
  refine tM_then k ((show Then C W F σ ((m env).bind _) _ from h).bind.imp fun s e F' H' e1 k1 g v r => ?_)
  cases s with
  | fro d =>
    cases d with
    | int i =>
      refine ⟨i, ?_, g F' H' (Ex.refl F') k1 v r⟩
      cases r
      rfl
    | _ => exact g.elim
  | _ => exact g.elim
def rSlM (C : FC) : V → Option Int → Option Int → Hp → VK → Prop := fun x lo hi H Q => ∃ F env σ d s, Ok C F env σ H ∧ PRep C F H x d ∧ sliceD d lo hi = some s ∧ Cont C F env σ s Q
theorem cutL_rep {K : PySem.W.Frag} {F : Hp} {vs : List V} {ds : List D} (r : RepL K F vs ds) (lo hi : Option Int) : RepL K F (cutV vs lo hi) (cutL ds lo hi) := by
  unfold cutV cutL
  rw [r.length]
  exact (r.drop _).take _
theorem sl_M {X : Cx} {C : FC} (hK : C.K = X.K) : SlR X (rSlM C) := by
  intro pins s σ H x v vl vu lo hi sl Q I rx hs pl pu h
  obtain ⟨F, env, σ', d, s', k, r, e, q⟩ := h
  unfold sliceD at e
  split at e
  · rename_i ds
    cases e
    obtain ⟨a, vs, rfl, hH, rr⟩ := r.lst k.ex
    exact sl_list pins s σ H _ v vl vu lo hi sl Q I rx hs pl pu ⟨a, vs, rfl, .inl (.inl hH), fun p hp => q.newL k (cutL_rep rr lo hi) hp⟩
  · rename_i x'
    split at e
    · rename_i hl
      cases e
      rw [r.str] at rx
      exact sl_str pins s σ H _ v vl vu lo hi sl Q I rx hs pl pu ⟨x', rfl, by rw [sizeLine_eq]; exact hl, q.sc k (.str _)⟩
    · cases e
  · rename_i ds
    split at e
    · cases e
    · rename_i hw
      cases e
      obtain ⟨a, vs, rfl, hH, rr⟩ := r.tup k.ex
      exact sl_tup pins s σ H _ v vl vu lo hi sl Q I rx hs pl pu ⟨a, vs, rfl, hK ▸ hH, by rw [rr.length]; exact hw, fun p hp => q.newT k (cutL_rep rr lo hi) hp⟩
  · cases e

section
variable {X : Cx} {C : FC} {W : WX} {e a b : Expr} {es : List Expr} {pos : Pos} {A B L U : Opd} {os : List Opd}
theorem g_sl00 {p2 : Pos} (hK : C.K = X.K) (ha : PE X a (oT C W A)) : PE X (.Subscript a (.Slice none none none p2) pos) (tM C W (mOp [A] sl00)) :=
  pe_imp (pe_slice (sl_M hK) ha po_none po_none) fun σ H Q q => by
    obtain ⟨F, env, k, h⟩ := mOp_out q
    show oTA C W [A] σ H fun vs H1 => match vs with | [x] => rSlM C x none none H1 Q | _ => False
    refine ops_run [A] k (h.imp fun ss e F' H' e1 k1 ⟨s, hf, g⟩ vs ra => ?_)
    have pr := ra.prep k1
    generalize ss.map Sl.d = ds at hf pr
    unfold sl00 at hf
    split at hf
    · cases pr with
      | cons p1 pr => cases pr; exact ⟨F', e, σ, _, s, k1, p1, hf, g⟩
    · cases hf
theorem g_sl10 {l : Expr} {p2 : Pos} (hK : C.K = X.K) (ha : PE X a (oT C W A)) (hl : PE X l (oT C W L)) : PE X (.Subscript a (.Slice (some l) none none p2) pos) (tM C W (mOp [A, L] sl10)) :=
  pe_imp (pe_slice (sl_M hK) ha (po_some hl) po_none) fun σ H Q q => by
    obtain ⟨F, env, k, h⟩ := mOp_out q
    show oTA C W [A, L] σ H fun vs H1 => match vs with | [x, y] => ∃ i, y = .int i ∧ rSlM C x (some i) none H1 Q | _ => False
    refine ops_run [A, L] k (h.imp fun ss e F' H' e1 k1 ⟨s, hf, g⟩ vs ra => ?_)
    have pr := ra.prep k1
    generalize ss.map Sl.d = ds at hf pr
    unfold sl10 at hf
    split at hf
    · cases pr with
      | cons p1 pr =>
        cases pr with
        | cons p2 pr => cases pr; exact ⟨_, p2.int, F', e, σ, _, s, k1, p1, hf, g⟩
    · cases hf
theorem g_sl01 {l : Expr} {p2 : Pos} (hK : C.K = X.K) (ha : PE X a (oT C W A)) (hl : PE X l (oT C W L)) : PE X (.Subscript a (.Slice none (some l) none p2) pos) (tM C W (mOp [A, L] sl01)) :=
  pe_imp (pe_slice (sl_M hK) ha po_none (po_some hl)) fun σ H Q q => by
    obtain ⟨F, env, k, h⟩ := mOp_out q
    show oTA C W [A, L] σ H fun vs H1 => match vs with | [x, y] => ∃ i, y = .int i ∧ rSlM C x none (some i) H1 Q | _ => False
    refine ops_run [A, L] k (h.imp fun ss e F' H' e1 k1 ⟨s, hf, g⟩ vs ra => ?_)
    have pr := ra.prep k1
    generalize ss.map Sl.d = ds at hf pr
    unfold sl01 at hf
    split at hf
    · cases pr with
      | cons p1 pr =>
        cases pr with
        | cons p2 pr => cases pr; exact ⟨_, p2.int, F', e, σ, _, s, k1, p1, hf, g⟩
    · cases hf
theorem g_sl11 {l u : Expr} {p2 : Pos} {mL mU : En → RS Sl} (hK : C.K = X.K) (ha : PE X a (oT C W A)) (hl : PE X l (tM C W mL)) (hu : PE X u (tM C W mU)) : PE X (.Subscript a (.Slice (some l) (some u) none p2) pos) (tM C W (mOp [A, .val (mInt mL), .val mU] sl11)) :=
  pe_imp (pe_slice (sl_M hK) ha (po_some hl) (po_some hu)) fun σ H Q q => by
    obtain ⟨F, env, k, h⟩ := mOp_out q
    have key : oTA C W [A, .val (mInt mL), .val mU] σ H fun vs H1 => ∃ x i j, vs = [x, .int i, .int j] ∧ rSlM C x (some i) (some j) H1 Q := by
      refine ops_run [A, .val (mInt mL), .val mU] k (h.imp fun ss e F' H' e1 k1 ⟨s, hf, g⟩ vs ra => ?_)
      have pr := ra.prep k1
      generalize ss.map Sl.d = ds at hf pr
      unfold sl11 at hf
      split at hf
      · cases pr with
        | cons p1 pr =>
          cases pr with
          | cons p2 pr =>
            cases pr with
            | cons p3 pr =>
              cases pr
              have e2 := p2.int
              have e3 := p3.int
              subst e2 e3
              exact ⟨_, _, _, rfl, F', e, σ, _, s, k1, p1, hf, g⟩
      · cases hf
    refine oT_mono (fun x H1 (q1 : tM C W (mInt mL) σ H1 fun y H2 => tM C W mU σ H2 fun z H3 => ∃ x' i j, [x, y, z] = [x', V.int i, V.int j] ∧ rSlM C x' (some i) (some j) H3 Q) => ?_) key
    refine tM_mono (fun y H2 ⟨i, ey, q2⟩ => ⟨i, ey, ?_⟩) (tM_int q1)
    refine tM_mono (fun z H3 ⟨x', i', j, e4, q3⟩ => ?_) q2
    cases e4
    cases ey
    exact ⟨j, rfl, q3⟩

/-! ### displays -/
def froL : List Sl → Option (List D)
  | [] => some []
  | .fro d :: r => (froL r).map (d :: ·)
  | _ => none
theorem froL_cons {s : Sl} {ss : List Sl} {ds : List D} (h : froL (s :: ss) = some ds) : ∃ d es, s = .fro d ∧ froL ss = some es ∧ ds = d :: es := by
  cases s with
  | fro d =>
    cases q : froL ss with
    | none => simp [froL, q] at h
    | some es =>
      simp [froL, q] at h
      exact ⟨d, es, rfl, rfl, h.symm⟩
  | _ => cases h
theorem froL_rep {F H : Hp} {env : En} {σ : L2.St} : ∀ {os : List Opd} {vs : List V} {ss : List Sl} {ds : List D}, ARepO C F H env σ os vs ss → froL ss = some ds → RepL C.K F vs ds
  | _, _, _, _, .nil, h => by cases h; exact .nil
  | _, _, _, _, .val a r, h => by
    obtain ⟨d, es, rfl, h2, rfl⟩ := froL_cons h
    exact .cons a (froL_rep r h2)
  | _, _, _, _, .pk a _ _ r, h => by
    obtain ⟨d, es, rfl, h2, rfl⟩ := froL_cons h
    exact .cons a (froL_rep r h2)
  | _, _, _, _, .bor _ _ r, h => by
    obtain ⟨d, es, h1, _⟩ := froL_cons h
    cases h1
def mTup (os : List Opd) : En → RS Sl := fun e => (ops os e).bind fun ss e' => match froL ss with
  | some ds => if ds.length ≤ 16777216 then .ok (.fro (.tup ds)) e' else .bad
  | none => .bad
def mLst (os : List Opd) : En → RS Sl := fun e => (ops os e).bind fun ss e' => match froL ss with
  | some ds => if ds.length ≤ 16777216 then .ok (.own (.lst ds)) e' else .bad
  | none => .bad
theorem g_tup {k0 : Nat} (h : PA X es (oTA C W os)) : PE X (.Tuple es k0 pos) (tM C W (mTup os)) := pe_imp (pe_tup h) fun σ H Q q => by
  obtain ⟨F, env, k, h⟩ := tM_out q
  refine ops_run os k ((show Then C W F σ ((ops os env).bind _) _ from h).bind.imp fun ss e F' H' e1 k1 g vs ra => ?_)
  cases z : froL ss with
  | none =>
    simp only [z] at g
    exact g.elim
  | some ds =>
    simp only [z] at g
    have r := froL_rep ra z
    split at g
    · rename_i hl
      exact ⟨by rw [r.length, sizeLine_eq]; exact hl, fun p hp => Cont.newT k1 (fun v F2 H2 e2 k2 r => g F2 H2 e2 k2 v r) r hp⟩
    · exact g.elim
theorem g_lst (h : PA X es (oTA C W os)) : PE X (.List es pos) (tM C W (mLst os)) := pe_imp (pe_lst h) fun σ H Q q => by
  obtain ⟨F, env, k, h⟩ := tM_out q
  refine ops_run os k ((show Then C W F σ ((ops os env).bind _) _ from h).bind.imp fun ss e F' H' e1 k1 g vs ra => ?_)
  cases z : froL ss with
  | none =>
    simp only [z] at g
    exact g.elim
  | some ds =>
    simp only [z] at g
    have r := froL_rep ra z
    split at g
    · rename_i hl
      exact ⟨by rw [r.length, sizeLine_eq]; exact hl, fun p hp => Cont.newL k1 (fun v F2 H2 e2 k2 r => g F2 H2 e2 k2 v r) r hp⟩
    · exact g.elim
end
end M

set_option Elab.async false
set_option linter.all false
set_option maxRecDepth 100000
set_option maxHeartbeats 4000000
namespace M
open PySem PySem.Spec PyProof.Rows L2

section
variable {X : Cx} {C : FC} {W : WX} {e a b : Expr} {es : List Expr} {pos : Pos} {A B L U : Opd} {os : List Opd}
theorem rDN_1 {f : List D → Option Sl} {vs : List V} {H : Hp} {Q : VK} (h1 : ∀ ds s, f ds = some s → ∃ a, ds = [a]) (h : rDN C f vs H Q) : ∃ F env σ x a s, vs = [x] ∧ Ok C F env σ H ∧ PRep C F H x a ∧ f [a] = some s ∧ Cont C F env σ s Q := by
  obtain ⟨F, env, σ, ds, s, k, r, e, q⟩ := h
  obtain ⟨a, rfl⟩ := h1 ds s e
  cases r with
  | cons p r => cases r; exact ⟨F, env, σ, _, a, s, rfl, k, p, e, q⟩
theorem rDN_2 {f : List D → Option Sl} {vs : List V} {H : Hp} {Q : VK} (h1 : ∀ ds s, f ds = some s → ∃ a b, ds = [a, b]) (h : rDN C f vs H Q) : ∃ F env σ x y a b s, vs = [x, y] ∧ Ok C F env σ H ∧ PRep C F H x a ∧ PRep C F H y b ∧ f [a, b] = some s ∧ Cont C F env σ s Q := by
  obtain ⟨F, env, σ, ds, s, k, r, e, q⟩ := h
  obtain ⟨a, b, rfl⟩ := h1 ds s e
  cases r with
  | cons p r =>
    cases r with
    | cons p2 r => cases r; exact ⟨F, env, σ, _, _, a, b, s, rfl, k, p, p2, e, q⟩
def fn1 (f : D → Option Sl) : List D → Option Sl
  | [a] => f a
  | _ => none
def fn2 (f : D → D → Option Sl) : List D → Option Sl
  | [a, b] => f a b
  | _ => none
theorem fn1_one {f : D → Option Sl} : ∀ ds s, fn1 f ds = some s → ∃ a, ds = [a]
  | [a], _, _ => ⟨a, rfl⟩
theorem fn2_two {f : D → D → Option Sl} : ∀ ds s, fn2 f ds = some s → ∃ a b, ds = [a, b]
  | [a, b], _, _ => ⟨a, b, rfl⟩

/-! ### len, int, list, tuple, max, min -/
def lenD : List D → Option Sl := fn1 fun
  | .lst ds => some (.fro (.int (ds.length : Int)))
  | .tup ds => some (.fro (.int (ds.length : Int)))
  | .scr ns => some (.fro (.int (ns.length : Int)))
  | .dic kds => some (.fro (.int (kds.length : Int)))
  | .str x => if x.length ≤ 16777216 then some (.fro (.int (x.length : Int))) else none
  | _ => none
theorem call_lenM (hK : C.K = X.K) : CallR X (.builtin "len") (rDN C lenD) := by
  intro pins s σ H xs us Q I r h
  obtain ⟨F, env, σ', x, a, s', rfl, k, p, e, q⟩ := rDN_1 fn1_one h
  simp only [lenD, fn1] at e
  split at e
  · cases e
    obtain ⟨ad, vs, rfl, hH, rr⟩ := p.lst k.ex
    exact call_len pins s σ H _ us Q I r ⟨_, _, rfl, .inl ⟨vs, .inl (.inl hH), rfl⟩, by rw [rr.length]; exact q.sc k (.int _)⟩
  · cases e
    obtain ⟨ad, vs, rfl, hH, rr⟩ := p.tup k.ex
    exact call_len pins s σ H _ us Q I r ⟨_, _, rfl, .inr ⟨vs, hK ▸ hH, rfl⟩, by rw [rr.length]; exact q.sc k (.int _)⟩
  · cases e
    obtain ⟨ad, rfl, hH⟩ := p.scr k.ex
    exact call_len pins s σ H _ us Q I r ⟨_, _, rfl, .inl ⟨_, hK ▸ hH, rfl⟩, by rw [List.length_map]; exact q.sc k (.int _)⟩
  · cases e
    obtain ⟨ad, vs, rfl, hH, rr⟩ := p.dic k.ex
    exact call_lenD pins s σ H _ us Q I r ⟨ad, vs, rfl, hH, by rw [rr.length]; exact q.sc k (.int _)⟩
  · split at e
    · rename_i hl
      cases e
      rw [p.str] at r
      exact call_len pins s σ H _ us Q I r ⟨_, _, rfl, ⟨by rw [sizeLine_eq]; exact hl, rfl⟩, q.sc k (.int _)⟩
    · cases e
  · cases e
def intD : List D → Option Sl := fn1 fun
  | .int i => some (.fro (.int i))
  | .bl b => some (.fro (.int (if b then 1 else 0)))
  | _ => none
theorem call_intM : CallR X (.type "int") (rDN C intD) := by
  intro pins s σ H xs us Q I r h
  obtain ⟨F, env, σ', x, a, s', rfl, k, p, e, q⟩ := rDN_1 fn1_one h
  simp only [intD, fn1] at e
  split at e
  · cases e
    rw [p.int] at r
    exact call_int1 pins s σ H _ us Q I r (.inl ⟨_, rfl, q.sc k (.int _)⟩)
  · cases e
    rw [p.bl] at r
    exact call_int1 pins s σ H _ us Q I r (.inr ⟨_, rfl, q.sc k (.int _)⟩)
  · cases e
def listD : List D → Option Sl := fn1 fun
  | .lst ds => some (.own (.lst ds))
  | .tup ds => some (.own (.lst ds))
  | _ => none
theorem call_listM (hK : C.K = X.K) : CallR X (.type "list") (rDN C listD) := by
  intro pins s σ H xs us Q I r h
  obtain ⟨F, env, σ', x, a, s', rfl, k, p, e, q⟩ := rDN_1 fn1_one h
  simp only [listD, fn1] at e
  split at e
  · cases e
    obtain ⟨ad, vs, rfl, hH, rr⟩ := p.lst k.ex
    exact call_list_of pins s σ H _ us Q I r ⟨ad, vs, rfl, .inl (.inl (.inl hH)), fun l hl => q.newL k rr hl⟩
  · cases e
    obtain ⟨ad, vs, rfl, hH, rr⟩ := p.tup k.ex
    exact call_list_of pins s σ H _ us Q I r ⟨ad, vs, rfl, .inr (hK ▸ hH), fun l hl => q.newL k rr hl⟩
  · cases e
def tupleD : List D → Option Sl := fn1 fun
  | .lst ds => some (.fro (.tup ds))
  | .tup ds => some (.fro (.tup ds))
  | _ => none
theorem call_tupleM (hK : C.K = X.K) : CallR X (.type "tuple") (rDN C tupleD) := by
  intro pins s σ H xs us Q I r h
  obtain ⟨F, env, σ', x, a, s', rfl, k, p, e, q⟩ := rDN_1 fn1_one h
  simp only [tupleD, fn1] at e
  split at e
  · cases e
    obtain ⟨ad, vs, rfl, hH, rr⟩ := p.lst k.ex
    exact call_tuple_of pins s σ H _ us Q I r ⟨ad, vs, rfl, .inl ⟨.inl (.inl hH), fun l hl => q.newT k rr hl⟩⟩
  · rename_i ds
    cases e
    rcases p with p | ⟨ad, rfl, p⟩
    · cases p with
      | tup h1 h2 => exact call_tuple_of pins s σ H _ us Q I r ⟨_, _, rfl, .inr ⟨hK ▸ k.ex.t h1, q.sc k (.tup h1 h2)⟩⟩
    · cases p
  · cases e
def maxD : List D → Option Sl := fn2 fun
  | .int a, .int b => some (.fro (.int (if b > a then b else a)))
  | _, _ => none
def minD : List D → Option Sl := fn2 fun
  | .int a, .int b => some (.fro (.int (if b < a then b else a)))
  | _, _ => none
theorem call_maxM (hc : X.calm = true) : CallR X (.builtin "max") (rDN C maxD) := by
  intro pins s σ H xs us Q I r h
  obtain ⟨F, env, σ', x, y, a, b, s', rfl, k, p, p2, e, q⟩ := rDN_2 fn2_two h
  simp only [maxD, fn2] at e
  split at e
  · cases e
    rw [p.int, p2.int] at r
    exact call_max2 hc pins s σ H _ us Q I r ⟨_, _, rfl, q.sc k (.int _)⟩
  · cases e
theorem call_minM (hc : X.calm = true) : CallR X (.builtin "min") (rDN C minD) := by
  intro pins s σ H xs us Q I r h
  obtain ⟨F, env, σ', x, y, a, b, s', rfl, k, p, p2, e, q⟩ := rDN_2 fn2_two h
  simp only [minD, fn2] at e
  split at e
  · cases e
    rw [p.int, p2.int] at r
    exact call_min2 hc pins s σ H _ us Q I r ⟨_, _, rfl, q.sc k (.int _)⟩
  · cases e

/-! ### isinstance of a built-in type -/
def tyD : D → String
  | .non => "NoneType"
  | .bl _ => "bool"
  | .int _ => "int"
  | .str _ => "str"
  | .tup _ => "tuple"
  | .lst _ => "list"
  | .dic _ => "dict"
  | .scr _ => "list"
theorem TyX.of_rep {H : Hp} {v : V} {d : D} (h : Rep X.K H v d) : TyX X.K H v (.type (tyD d)) := by
  cases h with
  | non => exact .base .non
  | bl b => exact .base (.bl b)
  | int i => exact .base (.int i)
  | str x => exact .base (.str x)
  | tup h r =>
    rcases h with (h | ⟨o, h⟩) | ⟨o, its, n, h1, h2, _⟩
    · exact .base (.tup h)
    · exact .fTuple h
    · exact .kTuple h1 h2
  | lst h r => exact .base (.lst h)
  | dic h r => exact .base (.dK h)
  | scr h =>
    rcases h with (h | ⟨o, h⟩) | ⟨o, its, n, h1, h2, _⟩
    · exact .base (.lst h)
    · exact .base (.frz h)
    · exact .kList h1 h2
def isiD (T : String) : List D → Option Sl := fn1 fun d => (kitB (tyD d) T).map fun b => .fro (.bl b)
theorem g_isi {T : Str} {Ts : String} {p p2 : Pos} (hK : C.K = X.K) (hg : Gl X "isinstance") (hm : X.mg "isinstance" = none) (gT : Gl X T) (mT : X.mg T = none) (bT : bootBuiltins T = some (.type Ts)) (ha : PE X a (oT C W A))
    (hn : T ≠ "__name__" := by decide) (hd : (T == ("__debug__" : Str)) = false := by decide)
    (he : starEach [a, .Name T p2] X.env = (false, eval a X.env) :: starEach [.Name T p2] X.env := by rfl) : PE X (.Call (.Name "isinstance" p) [a, .Name T p2] [] pos) (tM C W (mOp [A] (isiD Ts))) :=
  pe_imp (pe_callB call_isi hg hm (by decide +kernel) (pa_cons ha (pa_cons (pe_bltn gT mT bT (v := .ty Ts) rfl hn hd) pa_nil (by rfl)) he) (by decide) (by decide) he (by rfl)) fun σ H Q q => by
    have key : oTA C W [A] σ H fun vs H1 => rDN C (isiD Ts) vs H1 Q := mOp_run q
    refine oT_mono (fun x H1 (q1 : rDN C (isiD Ts) [x] H1 Q) => ?_) key
    obtain ⟨F, env, σ', d, s', k, p, e, q⟩ := rDN_one q1
    simp only [isiD, fn1] at e
    cases hb : kitB (tyD d) Ts with
    | none => rw [hb] at e; cases e
    | some b =>
      rw [hb] at e
      cases e
      exact ⟨x, .ty Ts, .type (tyD d), .type Ts, b, rfl, .ty Ts, TyX.of_rep (hK ▸ p.rep k.ex), kit_ty hb, q.sc k (.bl _)⟩

/-! ### in -/
def inD (neg : Bool) : List D → Option Sl := fn2 fun x c => match c with
  | .lst ds => if x.toP.plain = true ∧ PyData.plainAll (toPs ds) = true ∧ min (PyData.depthAll (toPs ds)) x.toP.depth < 190 then some (.fro (.bl (if neg then !ds.any (fun y => eqv y x) else ds.any (fun y => eqv y x)))) else none
  | .tup ds => if x.toP.plain = true ∧ PyData.plainAll (toPs ds) = true ∧ min (PyData.depthAll (toPs ds)) x.toP.depth < 190 then some (.fro (.bl (if neg then !ds.any (fun y => eqv y x) else ds.any (fun y => eqv y x)))) else none
  | .str z => match x with
    | .str w => if w.length = 1 then some (.fro (.bl (if neg then !decide (w.cps.getD 0 0 ∈ z.cps.toList) else decide (w.cps.getD 0 0 ∈ z.cps.toList)))) else none
    | _ => none
  | _ => none
theorem str_one {w : Str} (h : w.length = 1) : w = ⟨#[w.cps.getD 0 0]⟩ := by
  obtain ⟨⟨l⟩⟩ := w
  have h' : l.length = 1 := h
  match l, h' with
  | [c], _ => rfl
theorem any_toPs (x : D) : ∀ ds : List D, ((toPs ds).any fun y => PyData.eqv y x.toP) = ds.any fun y => eqv y x
  | [] => rfl
  | d :: r => by
    show ((d.toP :: toPs r).any _) = _
    rw [List.any_cons, List.any_cons, any_toPs x r] <;> rfl
theorem op_inM (hK : C.K = X.K) (hu : X.A.units + 200 < cLine) : OpR X (compareOp .In) (rD2 C (inD false)) := by
  intro pins s σ H x y v u Q I rx ry h
  obtain ⟨F, env, σ', a, b, s', k, r1, r2, e, q⟩ := rDN_two h
  simp only [inD, fn2] at e
  split at e
  · rename_i ds
    split at e
    · rename_i hc
      cases e
      obtain ⟨as, d1⟩ := Dp.reads I a.toP x v (rep_dp (hK ▸ r1.rep k.ex) hc.1) rx
      obtain ⟨bs, d2⟩ := Dp.reads I (D.lst ds).toP y u (rep_dp (hK ▸ r2.rep k.ex) (by simpa only [D.toP, PyData.plain] using hc.2.1)) ry
      exact SeqAt.in_list_data d2 d1 hc.2.1 hc.1 (by have := hc.2.2; omega) ⟨.bl _, H, I, rfl, by rw [any_toPs]; exact q.sc k (.bl _)⟩
    · cases e
  · rename_i ds
    split at e
    · rename_i hc
      cases e
      obtain ⟨as, d1⟩ := Dp.reads I a.toP x v (rep_dp (hK ▸ r1.rep k.ex) hc.1) rx
      obtain ⟨bs, d2⟩ := Dp.reads I (D.tup ds).toP y u (rep_dp (hK ▸ r2.rep k.ex) (by simpa only [D.toP, PyData.plain] using hc.2.1)) ry
      exact SeqAt.in_tuple_data d2 d1 hc.2.1 hc.1 (by have := hc.2.2; omega) ⟨.bl _, H, I, rfl, by rw [any_toPs]; exact q.sc k (.bl _)⟩
    · cases e
  · rename_i z
    split at e
    · rename_i w
      split at e
      · rename_i hw
        cases e
        rw [r1.str, str_one hw] at rx
        rw [r2.str] at ry
        exact op_in_sign pins s σ H _ _ v u Q I rx ry ⟨_, _, rfl, rfl, q.sc k (.bl _)⟩
      · cases e
    · cases e
  · cases e
theorem op_notInM (hK : C.K = X.K) (hu : X.A.units + 200 < cLine) : OpR X (compareOp .NotIn) (rD2 C (inD true)) := by
  intro pins s σ H x y v u Q I rx ry h
  obtain ⟨F, env, σ', a, b, s', k, r1, r2, e, q⟩ := rDN_two h
  simp only [inD, fn2] at e
  split at e
  · rename_i ds
    split at e
    · rename_i hc
      cases e
      obtain ⟨as, d1⟩ := Dp.reads I a.toP x v (rep_dp (hK ▸ r1.rep k.ex) hc.1) rx
      obtain ⟨bs, d2⟩ := Dp.reads I (D.lst ds).toP y u (rep_dp (hK ▸ r2.rep k.ex) (by simpa only [D.toP, PyData.plain] using hc.2.1)) ry
      exact SeqAt.notIn_list_data d2 d1 hc.2.1 hc.1 (by have := hc.2.2; omega) ⟨.bl _, H, I, rfl, by rw [any_toPs]; exact q.sc k (.bl _)⟩
    · cases e
  · rename_i ds
    split at e
    · rename_i hc
      cases e
      obtain ⟨as, d1⟩ := Dp.reads I a.toP x v (rep_dp (hK ▸ r1.rep k.ex) hc.1) rx
      obtain ⟨bs, d2⟩ := Dp.reads I (D.tup ds).toP y u (rep_dp (hK ▸ r2.rep k.ex) (by simpa only [D.toP, PyData.plain] using hc.2.1)) ry
      exact SeqAt.notIn_tuple_data d2 d1 hc.2.1 hc.1 (by have := hc.2.2; omega) ⟨.bl _, H, I, rfl, by rw [any_toPs]; exact q.sc k (.bl _)⟩
    · cases e
  · rename_i z
    split at e
    · rename_i w
      split at e
      · rename_i hw
        cases e
        rw [r1.str, str_one hw] at rx
        rw [r2.str] at ry
        exact op_notIn_sign pins s σ H _ _ v u Q I rx ry ⟨_, _, rfl, rfl, q.sc k (.bl _)⟩
      · cases e
    · cases e
  · cases e
end
end M

set_option Elab.async false
set_option linter.all false
set_option maxRecDepth 100000
set_option maxHeartbeats 4000000
namespace M
open PySem PySem.Spec PyProof.Rows L2

section
variable {X : Cx} {C : FC} {W : WX} {e a b c : Expr} {es rest : List Expr} {pos : Pos} {A B L U : Opd} {os : List Opd} {m ma mb : En → RS Sl} {mc md : En → RS Bool}
theorem tMT_then {mc : En → RS Bool} {F H : Hp} {env : En} {σ : L2.St} {Q : Bool → Hp → Prop} (k : Ok C F env σ H) (h : Then C W F σ (mc env) fun b e F' H' => Q b H') : tMT C W mc σ H Q := by
  refine ⟨F, env, k, ?_⟩
  cases q : mc env with
  | ok s e =>
    rw [q] at h
    exact fun F' H' e1 k1 => h F' H' e1 k1
  | ex x e =>
    rw [q] at h
    exact h
  | bad =>
    rw [q] at h
    exact h
theorem tMT_out {mc : En → RS Bool} {σ : L2.St} {H : Hp} {Q : Bool → Hp → Prop} (h : tMT C W mc σ H Q) : ∃ F env, Ok C F env σ H ∧ Then C W F σ (mc env) fun b e F' H' => Q b H' := by
  obtain ⟨F, env, k, h⟩ := h
  refine ⟨F, env, k, ?_⟩
  cases q : mc env with
  | ok s e =>
    rw [q] at h
    exact h
  | ex x e =>
    rw [q] at h
    exact h
  | bad =>
    rw [q] at h
    exact h
/-- strengthening what is known behind: the state is as said -/
theorem Then.reach {α : Type} {F : Hp} {σ : L2.St} {r : RS α} {P P' : α → En → Hp → Hp → Prop} (h : Then C W F σ r P) (i : ∀ a e F' H', r = .ok a e → Ex F F' → Ok C F' e σ H' → P a e F' H' → P' a e F' H') : Then C W F σ r P' := by
  cases r with
  | ok a e => exact fun F' H' e1 k => i a e F' H' rfl e1 k (h F' H' e1 k)
  | ex x e => exact h
  | bad => exact h

/-! ### tests -/
def mB (m : En → RS Sl) : En → RS Bool := fun e => (m e).bind fun s e' => match s with
  | .fro (.bl b) => .ok b e'
  | _ => .bad
theorem mB_run {σ : L2.St} {H : Hp} {Q : Bool → Hp → Prop} (h : tMT C W (mB m) σ H Q) : tM C W m σ H fun x H1 => ∃ c, x = .bl c ∧ Q c H1 := by
  obtain ⟨F, env, k, h⟩ := tMT_out h
  refine tM_then k ((show Then C W F σ ((m env).bind _) _ from h).bind.imp fun s e F' H' e1 k1 g v r => ?_)
  cases s with
  | fro d =>
    cases d with
    | bl b =>
      cases r
      exact ⟨b, rfl, g F' H' (Ex.refl F') k1⟩
    | _ => exact g.elim
  | _ => exact g.elim
theorem gt_val (h : PE X e (tM C W m)) (he : ∀ whole, isTrue e X.env whole = (do let v ← whole; standAt e.pos; holding [v] (truthy v)) := by intro _; rfl) : PT X e (tMT C W (mB m)) := pt_imp (pt_val h he) fun _ _ _ q => mB_run q
theorem gt_cmp {op : CmpOp} {f : List D → Option Sl} (ho : OpR X (compareOp op) (rD2 C f)) (ha : PE X a (oT C W A)) (hb : PE X b (oT C W B)) (hm : behindInMarks op b = false) : PT X (.Compare a [op] [b] pos) (tMT C W (mB (mOp [A, B] f))) :=
  pt_imp (pt_cmpR ho ha hb hm) fun σ H Q q => by
    have h := mB_run q
    exact mOp_run (Q := fun x H1 => ∃ k, x = .bl k ∧ Q k H1) h
def truD : D → Option Bool
  | .non => some false
  | .bl b => some b
  | .int i => some (i != 0)
  | .str x => if x.length ≤ 16777216 then some ((x.length : Int) != 0) else none
  | .lst ds => some (!ds.isEmpty)
  | .tup ds => some (!ds.isEmpty)
  | .dic kds => some (!kds.isEmpty)
  | .scr ns => some (!ns.isEmpty)
def mTru (A : Opd) : En → RS Bool := fun e => (ops [A] e).bind fun ss e' => match ss with
  | [s] => match truD s.d with
    | some b => .ok b e'
    | none => .bad
  | _ => .bad
theorem TruV.of {F H : Hp} {v : V} {d : D} {b : Bool} (hK : C.K = X.K) (e : Ex F H) (h : PRep C F H v d) (t : truD d = some b) : TruV X.K v H b := by
  cases d with
  | non => cases t; rw [h.non]; exact rfl
  | bl b => cases t; rw [h.bl]; exact rfl
  | int i => cases t; rw [h.int]; exact rfl
  | str x =>
    simp only [truD] at t
    split at t
    · rename_i hl
      cases t
      rw [h.str]
      exact ⟨by rw [sizeLine_eq]; exact hl, rfl⟩
    · cases t
  | lst ds =>
    cases t
    obtain ⟨a, vs, rfl, hH, r⟩ := h.lst e
    refine .inl ⟨vs, .inl (.inl hH), ?_⟩
    cases r <;> rfl
  | tup ds =>
    cases t
    obtain ⟨a, vs, rfl, hH, r⟩ := h.tup e
    refine .inr (.inl ⟨vs, hK ▸ hH, ?_⟩)
    cases r <;> rfl
  | dic kds =>
    cases t
    obtain ⟨a, vs, rfl, hH, r⟩ := h.dic e
    refine .inr (.inr ⟨vs, hH, ?_⟩)
    cases r <;> rfl
  | scr ns =>
    cases t
    obtain ⟨a, rfl, hH⟩ := h.scr e
    refine .inl ⟨_, hK ▸ hH, ?_⟩
    cases ns <;> rfl
theorem gt_tru (hK : C.K = X.K) (h : PE X e (oT C W A)) (he : ∀ whole, isTrue e X.env whole = (do let v ← whole; standAt e.pos; holding [v] (truthy v)) := by intro _; rfl) : PT X e (tMT C W (mTru A)) := pt_imp (pt_truth h he) fun σ H Q q => by
  obtain ⟨F, env, k, h⟩ := tMT_out q
  show oTA C W [A] σ H fun vs H1 => match vs with | [x] => ∃ k, TruV X.K x H1 k ∧ Q k H1 | _ => False
  refine ops_run [A] k ((show Then C W F σ ((ops [A] env).bind _) _ from h).bind.imp fun ss e F' H' e1 k1 g vs ra => ?_)
  have pr := ra.prep k1
  match ss, vs, pr, g with
  | [s], [v], .cons p .nil, g =>
    cases ht : truD s.d with
    | none =>
      simp only [ht] at g
      exact g.elim
    | some b =>
      simp only [ht] at g
      exact ⟨b, TruV.of hK k1.ex p ht, g F' H' (Ex.refl F') k1⟩
  | [], _, _, g => exact g.elim
  | _ :: _ :: _, _, _, g => exact g.elim
def mAnd (mc md : En → RS Bool) : En → RS Bool := fun e => (mc e).bind fun b e' => match b with
  | true => md e'
  | false => .ok false e'
def mOr (mc md : En → RS Bool) : En → RS Bool := fun e => (mc e).bind fun b e' => match b with
  | true => .ok true e'
  | false => md e'
def mNot (mc : En → RS Bool) : En → RS Bool := fun e => (mc e).bind fun b e' => .ok (!b) e'
theorem gw_and1 (ha : PT X a (tMT C W mc)) : PW X (.BoolOp .And [a] pos) (tMT C W mc) := pw_and1 ha
theorem gw_or1 (ha : PT X a (tMT C W mc)) : PW X (.BoolOp .Or [a] pos) (tMT C W mc) := pw_or1 ha
theorem gw_and (ha : PT X a (tMT C W mc)) (hb : PW X (.BoolOp .And (b :: rest) pos) (tMT C W md)) : PW X (.BoolOp .And (a :: b :: rest) pos) (tMT C W (mAnd mc md)) := pw_imp (pw_and ha hb) fun σ H Q q => by
  obtain ⟨F, env, k, h⟩ := tMT_out q
  refine tMT_then k ((show Then C W F σ ((mc env).bind _) _ from h).bind.imp fun s e F' H' e1 k1 g => ?_)
  cases s with
  | true => exact tMT_then k1 g
  | false => exact g F' H' (Ex.refl F') k1
theorem gw_or (ha : PT X a (tMT C W mc)) (hb : PW X (.BoolOp .Or (b :: rest) pos) (tMT C W md)) : PW X (.BoolOp .Or (a :: b :: rest) pos) (tMT C W (mOr mc md)) := pw_imp (pw_or ha hb) fun σ H Q q => by
  obtain ⟨F, env, k, h⟩ := tMT_out q
  refine tMT_then k ((show Then C W F σ ((mc env).bind _) _ from h).bind.imp fun s e F' H' e1 k1 g => ?_)
  cases s with
  | true => exact g F' H' (Ex.refl F') k1
  | false => exact tMT_then k1 g
theorem gt_bool (h : PW X e (tMT C W mc)) : PT X e (tMT C W mc) := h.pt
theorem gt_not (ha : PT X a (tMT C W mc)) : PT X (.UnaryOp .Not a pos) (tMT C W (mNot mc)) := pt_imp (pt_not ha) fun σ H Q q => by
  obtain ⟨F, env, k, h⟩ := tMT_out q
  exact tMT_then k ((show Then C W F σ ((mc env).bind _) _ from h).bind.imp fun s e F' H' e1 k1 g => g F' H' (Ex.refl F') k1)

/-! ### and, or, not as values; a if c else b; is None -/
def mAndV (ma mb : En → RS Sl) : En → RS Sl := fun e => (ma e).bind fun s e' => match s with
  | .fro (.bl true) => mb e'
  | .fro (.bl false) => .ok (.fro (.bl false)) e'
  | _ => .bad
def mOrV (ma mb : En → RS Sl) : En → RS Sl := fun e => (ma e).bind fun s e' => match s with
  | .fro (.bl true) => .ok (.fro (.bl true)) e'
  | .fro (.bl false) => mb e'
  | _ => .bad
def mNotV (ma : En → RS Sl) : En → RS Sl := fun e => (ma e).bind fun s e' => match s with
  | .fro (.bl b) => .ok (.fro (.bl (!b))) e'
  | _ => .bad
theorem g_and (ha : PE X a (tM C W ma)) (hb : PE X (.BoolOp .And (b :: rest) pos) (tM C W mb)) : PE X (.BoolOp .And (a :: b :: rest) pos) (tM C W (mAndV ma mb)) := pe_imp (pe_and ha hb) fun σ H Q q => by
  obtain ⟨F, env, k, h⟩ := tM_out q
  refine tM_then k ((show Then C W F σ ((ma env).bind _) _ from h).bind.imp fun s e F' H' e1 k1 g v r => ?_)
  cases s with
  | fro d =>
    cases d with
    | bl b =>
      cases r
      cases b with
      | true => exact ⟨true, rfl, tM_then k1 g⟩
      | false => exact ⟨false, rfl, g F' H' (Ex.refl F') k1 _ (.bl false)⟩
    | _ => exact g.elim
  | _ => exact g.elim
theorem g_or (ha : PE X a (tM C W ma)) (hb : PE X (.BoolOp .Or (b :: rest) pos) (tM C W mb)) : PE X (.BoolOp .Or (a :: b :: rest) pos) (tM C W (mOrV ma mb)) := pe_imp (L2.pe_or ha hb) fun σ H Q q => by
  obtain ⟨F, env, k, h⟩ := tM_out q
  refine tM_then k ((show Then C W F σ ((ma env).bind _) _ from h).bind.imp fun s e F' H' e1 k1 g v r => ?_)
  cases s with
  | fro d =>
    cases d with
    | bl b =>
      cases r
      cases b with
      | true => exact ⟨true, rfl, g F' H' (Ex.refl F') k1 _ (.bl true)⟩
      | false => exact ⟨false, rfl, tM_then k1 g⟩
    | _ => exact g.elim
  | _ => exact g.elim
theorem g_one {op : BoolOp} (ha : PE X a (tM C W ma)) : PE X (.BoolOp op [a] pos) (tM C W ma) := pe_one ha
theorem g_not (ha : PE X a (tM C W ma)) : PE X (.UnaryOp .Not a pos) (tM C W (mNotV ma)) := pe_imp (pe_not ha) fun σ H Q q => by
  obtain ⟨F, env, k, h⟩ := tM_out q
  refine tM_then k ((show Then C W F σ ((ma env).bind _) _ from h).bind.imp fun s e F' H' e1 k1 g v r => ?_)
  cases s with
  | fro d =>
    cases d with
    | bl b =>
      cases r
      exact ⟨b, rfl, g F' H' (Ex.refl F') k1 _ (.bl _)⟩
    | _ => exact g.elim
  | _ => exact g.elim
def mIf (mc : En → RS Bool) (ma mb : En → RS Sl) : En → RS Sl := fun e => (mc e).bind fun b e' => match b with
  | true => ma e'
  | false => mb e'
theorem g_ifExp (hc : PT X c (tMT C W mc)) (ha : PE X a (tM C W ma)) (hb : PE X b (tM C W mb)) : PE X (.IfExp c a b pos) (tM C W (mIf mc ma mb)) := pe_imp (pe_ifExp hc ha hb) fun σ H Q q => by
  obtain ⟨F, env, k, h⟩ := tM_out q
  refine tMT_then k ((show Then C W F σ ((mc env).bind _) _ from h).bind.imp fun s e F' H' e1 k1 g => ?_)
  cases s with
  | true => exact tM_then k1 g
  | false => exact tM_then k1 g
def isNon : D → Bool
  | .non => true
  | _ => false
theorem PRep.isNon {F H : Hp} {v : V} {d : D} (h : PRep C F H v d) : decide (v = .non) = isNon d := by
  rcases h with h | ⟨a, rfl, h⟩
  · cases h <;> rfl
  · cases h <;> rfl
def isND (neg : Bool) : List D → Option Sl := fn1 fun d => some (.fro (.bl (if neg then !isNon d else isNon d)))
theorem g_isN {j} {p2 : Pos} (ha : PE X a (oT C W A)) : PE X (.Compare a [.Is] [.Constant .none j p2] pos) (tM C W (mOp [A] (isND false))) := pe_imp (pe_cmp (pc_isN ha) (by rfl)) fun σ H Q q => by
  have key : oTA C W [A] σ H fun vs H1 => rDN C (isND false) vs H1 Q := mOp_run q
  refine oT_mono (fun x H1 (q1 : rDN C (isND false) [x] H1 Q) => ?_) key
  obtain ⟨F, env, σ', d, s', k, p, e, q⟩ := rDN_one q1
  cases e
  rw [p.isNon]
  exact q.sc k (.bl _)
theorem g_notN {j} {p2 : Pos} (ha : PE X a (oT C W A)) : PE X (.Compare a [.IsNot] [.Constant .none j p2] pos) (tM C W (mOp [A] (isND true))) := pe_imp (pe_cmp (pc_notN ha) (by rfl)) fun σ H Q q => by
  have key : oTA C W [A] σ H fun vs H1 => rDN C (isND true) vs H1 Q := mOp_run q
  refine oT_mono (fun x H1 (q1 : rDN C (isND true) [x] H1 Q) => ?_) key
  obtain ⟨F, env, σ', d, s', k, p, e, q⟩ := rDN_one q1
  cases e
  rw [p.isNon]
  exact q.sc k (.bl _)
theorem gt_isN {j} {p2 : Pos} (ha : PE X a (oT C W A)) : PT X (.Compare a [.Is] [.Constant .none j p2] pos) (tMT C W (mB (mOp [A] (isND false)))) := pt_imp (pt_cmp (pc_isN ha) (by rfl)) fun σ H Q q => by
  have key : oTA C W [A] σ H fun vs H1 => rDN C (isND false) vs H1 fun x H1 => ∃ k, x = .bl k ∧ Q k H1 := mOp_run (mB_run q)
  refine oT_mono (fun x H1 q1 => ?_) key
  obtain ⟨F, env, σ', d, s', k, p, e, q⟩ := rDN_one q1
  cases e
  rw [p.isNon]
  exact q.sc k (.bl _)
theorem gt_notN {j} {p2 : Pos} (ha : PE X a (oT C W A)) : PT X (.Compare a [.IsNot] [.Constant .none j p2] pos) (tMT C W (mB (mOp [A] (isND true)))) := pt_imp (pt_cmp (pc_notN ha) (by rfl)) fun σ H Q q => by
  have key : oTA C W [A] σ H fun vs H1 => rDN C (isND true) vs H1 fun x H1 => ∃ k, x = .bl k ∧ Q k H1 := mOp_run (mB_run q)
  refine oT_mono (fun x H1 q1 => ?_) key
  obtain ⟨F, env, σ', d, s', k, p, e, q⟩ := rDN_one q1
  cases e
  rw [p.isNon]
  exact q.sc k (.bl _)

/-! ### join -/
def strsD : List D → Option (List Str)
  | [] => some []
  | .str x :: r => (strsD r).map (x :: ·)
  | _ => none
theorem strsD_rep {F : Hp} : ∀ {vs : List V} {ds : List D} {ys : List Str}, RepL C.K F vs ds → strsD ds = some ys → vs = ys.map V.str
  | _, _, _, .nil, h => by cases h; rfl
  | _, d :: ds, ys, .cons a r, h => by
    cases d with
    | str x =>
      cases q : strsD ds with
      | none => simp [strsD, q] at h
      | some es =>
        simp [strsD, q] at h
        subst h
        cases a
        rw [strsD_rep r q] <;> rfl
    | _ => cases h
def joinD (z : Str) : List D → Option Sl := fn1 fun
  | .lst ds => (strsD ds).bind fun ys => if (ys.map (·.length)).sum + ys.length * z.length ≤ 16777216 then some (.fro (.str (Txt.join z ys))) else none
  | .tup ds => (strsD ds).bind fun ys => if (ys.map (·.length)).sum + ys.length * z.length ≤ 16777216 then some (.fro (.str (Txt.join z ys))) else none
  | _ => none
theorem g_join {z : Str} {o : Expr} {apos : Pos} (hK : C.K = X.K) (ho : PE X o (tC (.str z))) (ha : PE X e (oT C W A)) (hs : starEach [e] X.env = [(false, eval e X.env)] := by rfl) (hb : attributeBase o "join" X.env (eval o X.env) = eval o X.env := by rfl) (hl : (apos.endLine == pos.line) = true := by rfl) :
    PE X (.Call (.Attribute o "join" apos) [e] [] pos) (tM C W (mOp [A] (joinD z))) := pe_imp (pe_join ho ha hs hb hl) fun σ H Q q => by
  have key : oTA C W [A] σ H fun vs H1 => rDN C (joinD z) vs H1 Q := mOp_run q
  refine ⟨⟨_, rfl⟩, oT_mono (fun x H1 (q1 : rDN C (joinD z) [x] H1 Q) => ?_) key⟩
  obtain ⟨F, env, σ', d, s', k, p, e, q⟩ := rDN_one q1
  simp only [joinD, fn1] at e
  split at e
  · rename_i ds
    obtain ⟨ad, vs, rfl, hH, rr⟩ := p.lst k.ex
    cases hs : strsD ds with
    | none => rw [hs] at e; cases e
    | some ys =>
      rw [hs] at e
      simp only [Option.bind_some] at e
      split at e
      · rename_i hl
        cases e
        exact ⟨z, ad, ys, rfl, rfl, .inl (.inl (.inl (by rw [← strsD_rep rr hs]; exact hH))), hl, q.sc k (.str _)⟩
      · cases e
  · rename_i ds
    obtain ⟨ad, vs, rfl, hH, rr⟩ := p.tup k.ex
    cases hs : strsD ds with
    | none => rw [hs] at e; cases e
    | some ys =>
      rw [hs] at e
      simp only [Option.bind_some] at e
      split at e
      · rename_i hl
        cases e
        exact ⟨z, ad, ys, rfl, rfl, .inr (by rw [← strsD_rep rr hs]; exact hK ▸ hH), hl, q.sc k (.str _)⟩
      · cases e
  · cases e
end
end M

set_option Elab.async false
set_option linter.all false
set_option maxRecDepth 100000
set_option maxHeartbeats 4000000
namespace M
open PySem PySem.Spec PyProof.Rows L2

section
variable {X : Cx} {C : FC} {W : WX} {e a b c : Expr} {es rest : List Expr} {st : Stmt} {sts : List Stmt} {pos : Pos} {A B L U : Opd} {os : List Opd} {m ma mb : En → RS Sl} {mc md : En → RS Bool} {ms mr : En → Out} {bs : List Nat}
/-- from an evaluation to a statement's end -/
def outOf (r : RS Sl) (f : Sl → En → Out) : Out := match r with
  | .ok s e => f s e
  | .ex x e => .ex x e
  | .bad => .bad
theorem outOf_then {F : Hp} {D : Ends} {σ : L2.St} {r : RS Sl} {f : Sl → En → Out} (h : ThenS C W F D (outOf r f)) : Then C W F σ r fun s e F' H' => ThenS C W F' D (f s e) := by
  cases r with
  | ok s e => exact fun F' H' e1 k => ThenS.mono e1 h
  | ex x e => exact fun cls d F' H' k xr => h cls d F' σ H' k xr
  | bad => exact h
def outOfB (r : RS Bool) (f : Bool → En → Out) : Out := match r with
  | .ok s e => f s e
  | .ex x e => .ex x e
  | .bad => .bad
theorem outOfB_then {F : Hp} {D : Ends} {σ : L2.St} {r : RS Bool} {f : Bool → En → Out} (h : ThenS C W F D (outOfB r f)) : Then C W F σ r fun s e F' H' => ThenS C W F' D (f s e) := by
  cases r with
  | ok s e => exact fun F' H' e1 k => ThenS.mono e1 h
  | ex x e => exact fun cls d F' H' k xr => h cls d F' σ H' k xr
  | bad => exact h
def outOfL (r : RS (List Sl)) (f : List Sl → En → Out) : Out := match r with
  | .ok s e => f s e
  | .ex x e => .ex x e
  | .bad => .bad
theorem outOfL_then {F : Hp} {D : Ends} {σ : L2.St} {r : RS (List Sl)} {f : List Sl → En → Out} (h : ThenS C W F D (outOfL r f)) : Then C W F σ r fun s e F' H' => ThenS C W F' D (f s e) := by
  cases r with
  | ok s e => exact fun F' H' e1 k => ThenS.mono e1 h
  | ex x e => exact fun cls d F' H' k xr => h cls d F' σ H' k xr
  | bad => exact h

/-! ### blocks -/
def mNext : En → Out := fun e => .nx e
def mSeq (ms mr : En → Out) : En → Out := fun e => match ms e with
  | .nx e' => mr e'
  | .rt s e' => .rt s e'
  | .bk e' => .bk e'
  | .ct e' => .ct e'
  | .ex x e' => .ex x e'
  | .bad => .bad
theorem gs_nil : PSs X [] (tMS C W mNext) := pss_imp pss_nil fun D σ H ⟨F, env, k, h⟩ => h F σ H (Ex.refl F) k
theorem gs_cons (h1 : PS X st (tMS C W ms)) (h2 : PSs X sts (tMS C W mr)) : PSs X (st :: sts) (tMS C W (mSeq ms mr)) := pss_imp (pss_cons h1 h2) fun D σ H ⟨F, env, k, h⟩ => by
  refine ⟨F, env, k, ?_⟩
  have h' : ThenS C W F D (match ms env with | .nx e' => mr e' | .rt s e' => .rt s e' | .bk e' => .bk e' | .ct e' => .ct e' | .ex x e' => .ex x e' | .bad => .bad) := h
  cases q : ms env with
  | nx e' =>
    rw [q] at h'
    exact fun F' σ' H' e1 k1 => ⟨F', e', k1, ThenS.mono e1 h'⟩
  | rt s e' => rw [q] at h'; exact h'
  | bk e' => rw [q] at h'; exact h'
  | ct e' => rw [q] at h'; exact h'
  | ex x e' => rw [q] at h'; exact h'
  | bad => rw [q] at h'; exact h'
theorem gs_one (h1 : PS X st (tMS C W ms)) : PSs X [st] (tMS C W ms) := pss_one h1
def mNever : En → Out := fun _ => .bad
theorem gs_never : PS X st (tMS C W mNever) := ps_imp ps_never fun D σ H ⟨F, env, k, h⟩ => h
theorem gs_pass : PS X (.Pass pos) (tMS C W mNext) := ps_imp ps_pass fun D σ H ⟨F, env, k, h⟩ => h F σ H (Ex.refl F) k
def mBreak : En → Out := fun e => .bk e
def mCont : En → Out := fun e => .ct e
theorem gs_break : PS X (.Break pos) (tMS C W mBreak) := ps_imp ps_break fun D σ H ⟨F, env, k, h⟩ => h F σ H (Ex.refl F) k
theorem gs_cont : PS X (.Continue pos) (tMS C W mCont) := ps_imp ps_continue fun D σ H ⟨F, env, k, h⟩ => h F σ H (Ex.refl F) k
theorem gs_doc {x : Str} {j} {p2 : Pos} : PS X (.Expr (.Constant (.str x) j p2) pos) (tMS C W mNext) := ps_imp ps_doc fun D σ H ⟨F, env, k, h⟩ => h F σ H (Ex.refl F) k

/-! ### stores -/
def mAsg (i : Nat) (m : En → RS Sl) : En → Out := fun e => outOf (m e) fun s e' => .nx (e'.set i s)
theorem gs_asg {i : Nat} {x : Str} {p2 : Pos} (hb : ∀ q ∈ C.bor, q.1 ∈ bs) (hi : bs.contains i = false) (hN : X.N.Nodup) (hx : X.N[i]? = some x) (hl : Loc X.env.scope x) (he : PE X e (tM C W m)) (hs : swapsWith e (some (.Name x p2)) pos.line X.env = pure false) (hf : X.fn x = true ∨ X.env.scope.names.lookup x = some .local := by first | exact .inl rfl | exact .inr rfl | assumption) :
    PS X (.Assign [.Name x p2] e pos) (tMS C W (mAsg i m)) := ps_imp (ps_set hN hx hl he hs hf) fun D σ H ⟨F, env, k, h⟩ => by
  refine tM_then k ((outOf_then (σ := σ) h).imp fun s e F' H' e1 k1 g v r => ?_)
  refine g F' _ H' (Ex.refl F') (k1.asg i (fun q hq z => ?_) r)
  have := hb q hq
  rw [z] at this
  rw [List.contains_iff_mem.mpr this] at hi
  cases hi
def setAll : List Nat → List D → En → En
  | i :: is, d :: ds, e => setAll is ds (e.set i (.fro d))
  | _, _, e => e
def mUnp (is : List Nat) (m : En → RS Sl) : En → Out := fun e => outOf (m e) fun s e' => match s with
  | .fro (.tup ds) => if ds.length = is.length then .nx (setAll is ds e') else .bad
  | _ => .bad
def gNames : List Nat → TGs
  | [] => gNil
  | i :: r => gCons (gName i) (gNames r)
theorem gNames_run (hb : ∀ q ∈ C.bor, q.1 ∈ bs) : ∀ (is : List Nat) {ds : List D} {vs : List V} {F H : Hp} {env : En} {σ : L2.St} {Q : L2.St → Hp → Prop}, (∀ i ∈ is, bs.contains i = false) → Ok C F env σ H → RepL C.K F vs ds → ds.length = is.length →
    (∀ σ', Ok C F (setAll is ds env) σ' H → Q σ' H) → gNames is vs σ H Q
  | [], [], _, F, H, env, σ, Q, hi, k, .nil, hl, q => ⟨rfl, q σ k⟩
  | i :: is, d :: ds, _, F, H, env, σ, Q, hi, k, .cons (v := v) r rr, hl, q => by
    refine ⟨_, _, rfl, gNames_run hb is (fun j hj => hi j (List.mem_cons_of_mem _ hj)) (k.asg i (fun p hp z => ?_) (s := .fro d) (v := v) r) rr (by simpa using hl) q⟩
    have h1 := hi i List.mem_cons_self
    have h2 := hb p hp
    rw [z] at h2
    rw [List.contains_iff_mem.mpr h2] at h1
    cases h1
  | [], _ :: _, _, F, H, env, σ, Q, hi, k, _, hl, q => by cases hl
  | _ :: _, [], _, F, H, env, σ, Q, hi, k, _, hl, q => by cases hl
theorem gs_unp {is : List Nat} {tg : Expr} (hK : C.K = X.K) (hb : ∀ q ∈ C.bor, q.1 ∈ bs) (hi : is.all (fun i => !bs.contains i) = true) (hg : PG X tg (gTup X.K is.length (gNames is))) (he : PE X e (tM C W m)) (hs : swapsWithSole [tg] e pos.line X.env = pure false) (hw : swappedStores [tg] e X.env = pure none)
    (h1 : (assignEach [tg] X.env).map (·.2) = [assign tg X.env] := by rfl) : PS X (.Assign [tg] e pos) (tMS C W (mUnp is m)) := ps_imp (ps_asg he hg hs hw h1) fun D σ H ⟨F, env, k, h⟩ => by
  refine tM_then k ((outOf_then (σ := σ) h).imp fun s e F' H' e1 k1 g v r => ?_)
  cases s with
  | fro d =>
    cases d with
    | tup ds =>
      cases r with
      | tup hS rr =>
        have g' : ThenS C W F' D (if ds.length = is.length then .nx (setAll is ds e) else .bad) := g
        split at g'
        · rename_i hl
          exact ⟨_, _, rfl, hK ▸ k1.ex.t hS, by rw [rr.length, hl], gNames_run hb is (fun i hi' => by
            have := List.all_eq_true.mp hi i hi'
            simpa using this) k1 rr hl fun σ' k2 => g' F' σ' H' (Ex.refl F') k2⟩
        · exact g'.elim
    | _ => exact g.elim
  | _ => exact g.elim
def mDrop (m : En → RS Sl) : En → Out := fun e => outOf (m e) fun _ e' => .nx e'
theorem gs_drop (he : PE X e (tM C W m)) (hs : swapsWith e none pos.line X.env = pure false) : PS X (.Expr e pos) (tMS C W (mDrop m)) := ps_imp (ps_expr he hs) fun D σ H ⟨F, env, k, h⟩ =>
  tM_then k ((outOf_then (σ := σ) h).imp fun s e F' H' e1 k1 g v r => g F' σ H' (Ex.refl F') k1)
def mRet (m : En → RS Sl) : En → Out := fun e => outOf (m e) fun s e' => .rt s e'
theorem gs_ret (he : PE X e (tM C W m)) : PS X (.Return (some e) pos) (tMS C W (mRet m)) := ps_imp (ps_ret he) fun D σ H ⟨F, env, k, h⟩ =>
  tM_then k ((outOf_then (σ := σ) h).imp fun s e F' H' e1 k1 g v r => g v F' σ H' (Ex.refl F') k1 r)
def mRetN : En → Out := fun e => .rt (.fro .non) e
theorem gs_retN : PS X (.Return none pos) (tMS C W mRetN) := ps_imp ps_retN fun D σ H ⟨F, env, k, h⟩ => h .non F σ H (Ex.refl F) k .non
def mIfS (mc : En → RS Bool) (ms mr : En → Out) : En → Out := fun e => outOfB (mc e) fun b e' => match b with
  | true => ms e'
  | false => mr e'
theorem gs_if {t u : List Stmt} (hc : PT X c (tMT C W mc)) (ha : PSs X t (tMS C W ms)) (hb : PSs X u (tMS C W mr)) : PS X (.If c t u pos) (tMS C W (mIfS mc ms mr)) := ps_imp (ps_if hc ha hb) fun D σ H ⟨F, env, k, h⟩ => by
  refine tMT_then k ((outOfB_then (σ := σ) h).imp fun b e F' H' e1 k1 g => ?_)
  cases b with
  | true => exact ⟨F', e, k1, g⟩
  | false => exact ⟨F', e, k1, g⟩

/-! ### += of ints -/
def mAug (f : Int → Int → Int) (i : Nat) (m : En → RS Sl) : En → Out := fun e => match e.getD i .non with
  | .fro (.int a) => outOf (m e) fun s e' => match s with
    | .fro (.int b) => .nx (e'.set i (.fro (.int (f a b))))
    | _ => .bad
  | _ => .bad
theorem gs_aug {f : Int → Int → Int} {op : Operator} {i : Nat} {x : Str} {p2 : Pos} (ho : PIp X op (ipI f)) (hb : ∀ q ∈ C.bor, q.1 ∈ bs) (hi : bs.contains i = false) (hN : X.N.Nodup) (hx : X.N[i]? = some x) (hl : Loc X.env.scope x) (he : PE X e (tM C W m)) (hf : X.fn x = true ∨ X.env.scope.names.lookup x = some .local := by first | exact .inl rfl | exact .inr rfl | assumption) :
    PS X (.AugAssign (.Name x p2) op e pos) (tMS C W (mAug f i m)) := ps_imp (ps_aug hN hx hl he ho hf) fun D σ H ⟨F, env, k, h⟩ => by
  unfold mAug at h
  split at h
  · rename_i a z
    have hs := getD_of z (by intro y; cases y)
    obtain ⟨ov, e4, v, e5, r5⟩ := k.sl i _ hs
    subst e5
    cases r5
    refine ⟨_, e4, tM_then k ((outOf_then (σ := σ) h).imp fun s e F' H' e1 k1 g v r => ?_)⟩
    split at g
    · cases r
      refine ⟨_, _, rfl, rfl, g F' _ H' (Ex.refl F') (k1.asg i (fun q hq z => ?_) (s := .fro _) (.int _))⟩
      have := hb q hq
      rw [z] at this
      rw [List.contains_iff_mem.mpr this] at hi
      cases hi
    · exact g.elim
  · exact h.elim

/-! ### a list of one's own changed -/
def mAppend (i : Nat) (A : Opd) : En → Out := fun e => match e.getD i .non with
  | .own (.lst _) => outOfL (ops [A] e) fun ss e' => match froL ss, e'.getD i .non with
    | some [d], .own (.lst ds) => if ds.length < 16777216 then .nx (e'.set i (.own (.lst (ds ++ [d])))) else .bad
    | _, _ => .bad
  | _ => .bad
theorem gs_append {i : Nat} {o : Expr} {apos cpos : Pos} (ho : PE X o (tVar i)) (ha : PE X a (oT C W A)) (hs : starEach [a] X.env = [(false, eval a X.env)]) (hbase : attributeBase o "append" X.env (eval o X.env) = eval o X.env) (hline : (apos.endLine == cpos.line) = true) (hsw : swapsWith (.Call (.Attribute o "append" apos) [a] [] cpos) none pos.line X.env = pure false := by rfl) :
    PS X (.Expr (.Call (.Attribute o "append" apos) [a] [] cpos) pos) (tMS C W (mAppend i A)) :=
  ps_imp (ps_expr (pe_bm PySem.F.plainAttrs_list PySem.F.slot_list_append PySem.F.type_list_append mt_append ho (pa_cons ha pa_nil hs) hbase (by rw [hs] <;> rfl) hline hs (by rfl)) hsw) fun D σ H ⟨F, env, k, h⟩ => by
    unfold mAppend at h
    split at h
    · rename_i ds0 z
      obtain ⟨ad, e4, ow⟩ := k.own_at (getD_of z (by intro y; cases y))
      have h2 : ∃ vs, H ad = some (.lst vs) := by
        cases ow.top with
        | lst h _ => exact ⟨_, h⟩
      obtain ⟨vs0, h2⟩ := h2
      refine ⟨_, e4, .inl ⟨rfl, _, .inl (.inl h2)⟩, ?_⟩
      show oTA C W [A] σ H fun vs H1 => rAppend (.ref ad) vs H1 fun _ H3 => D.nx σ H3
      refine ops_run [A] k ((outOfL_then (σ := σ) h).imp fun ss e F' H' e1 k1 g vs ra => ?_)
      split at g
      · rename_i d ds q1 q2
        split at g
        · rename_i hl
          have rr := froL_rep ra q1
          have q3 := getD_of q2 (by intro y; cases y)
          obtain ⟨ad', e5, ow2⟩ := k1.own_at q3
          rw [e4] at e5
          cases e5
          match vs, rr with
          | [v], .cons r .nil =>
            cases ow2.top with
            | lst hh rl =>
              refine ⟨ad, _, v, rfl, rfl, hh, by rw [rl.length, sizeLine_eq]; exact hl, ?_⟩
              exact g F' σ _ (Ex.refl F') (k1.write q3 e4 (.lst upd_same (rl.append (.one r))))
        · exact g.elim
      · exact g.elim
    · exact h.elim
/-- x.pop() -/
def mPop (i : Nat) : En → RS Sl := fun e => match e.getD i .non with
  | .own (.lst ds) => match ds[ds.length - 1]? with
    | some d => .ok (.fro d) (e.set i (.own (.lst ds.dropLast)))
    | none => .bad
  | _ => .bad
theorem g_pop {i : Nat} {o : Expr} {apos cpos : Pos} (ho : PE X o (tVar i)) (hbase : attributeBase o "pop" X.env (eval o X.env) = eval o X.env) (hline : (apos.endLine == cpos.line) = true) :
    PE X (.Call (.Attribute o "pop" apos) [] [] cpos) (tM C W (mPop i)) :=
  pe_imp (pe_bm0 PySem.F.plainAttrs_list PySem.F.slot_list_pop PySem.F.type_list_pop mt_pop ho hbase hline) fun σ H Q q => by
    obtain ⟨F, env, k, h⟩ := tM_out q
    unfold mPop at h
    split at h
    · rename_i ds z
      have q3 := getD_of z (by intro y; cases y)
      obtain ⟨ad, e4, ow⟩ := k.own_at q3
      cases ow.top with
      | lst hh rl =>
        split at h
        · rename_i d hd
          obtain ⟨v, hv, r⟩ := rl.get hd
          refine ⟨_, e4, .inl ⟨rfl, _, .inl (.inl hh)⟩, ad, _, v, rfl, rfl, hh, by rw [rl.length]; exact hv, ?_⟩
          exact h F _ (Ex.refl F) (k.write q3 e4 (.lst upd_same rl.dropLast)) v r
        · exact h.elim
    · exact h.elim
end
end M

set_option Elab.async false
set_option linter.all false
set_option maxRecDepth 100000
set_option maxHeartbeats 4000000
namespace M
open PySem PySem.Spec PyProof.Rows L2

/-! ### an object of the evaluation's own, kept apart -/
structure Temp (C : FC) (F H : Hp) (env : En) (σ : L2.St) (p : Addr) (o : HO) : Prop where
  at_ : H p = some o
  free : F p = none
  new : C.H0 p = none
  nfr : C.Fr p = none
  no : ¬ IsOwn env σ p
theorem Ok.temp {C : FC} {F H : Hp} {env : En} {σ : L2.St} {p : Addr} {o : HO} (k : Ok C F env σ H) (h : H p = none) : Temp C F (upd H p o) env σ p o := ⟨upd_same, k.fresh h, k.h0 h, k.freshFr h, k.freshO h⟩
def FC.prot (C : FC) (p : Addr) (o : HO) : FC := { C with H0 := upd C.H0 p o, F0 := fun a => if a = p then none else C.F0 a, Fr := upd C.Fr p o }
theorem prot_bor (C : FC) (p : Addr) (o : HO) : (C.prot p o).bor = C.bor := rfl
section
variable {C : FC} {F H : Hp} {env : En} {σ : L2.St} {p : Addr} {o : HO}
theorem Ok.mu_ne (k : Ok C F env σ H) (h : C.H0 p = none) : p ∉ C.mus := fun z => k.mu p z h
theorem Ok.prot (k : Ok C F env σ H) (t : Temp C F H env σ p o) : Ok (C.prot p o) F env σ H where
  ex := k.ex
  fr := fun a u h => by
    by_cases q : a = p
    · subst q
      have h' : upd C.Fr a o a = some u := h
      rw [upd_same] at h'
      cases h'
      exact t.at_
    · have h' : upd C.Fr p o a = some u := h
      rw [upd_ne q] at h'
      exact k.fr a u h'
  fro := k.fro
  frs := fun a u h => by
    have h1 := k.frs a u h
    show upd C.Fr p o a = some u
    rw [upd_ne (ne_of_none h1 t.nfr)]
    exact h1
  mu := fun a ha => by
    show upd C.H0 p o a ≠ none
    by_cases q : a = p
    · subst q
      rw [upd_same]
      exact Option.some_ne_none _
    · rw [upd_ne q]
      exact k.mu a ha
  f0 := fun a h hm => by
    show F a = if a = p then none else C.F0 a
    by_cases q : a = p
    · rw [if_pos q, q]
      exact t.free
    · rw [if_neg q]
      have h' : upd C.H0 p o a ≠ none := h
      rw [upd_ne q] at h'
      exact k.f0 a h' hm
  st := fun a h => by
    by_cases q : a = p
    · rw [q, t.at_]
      exact Option.some_ne_none _
    · have h' : upd C.H0 p o a ≠ none := h
      rw [upd_ne q] at h'
      exact k.st a h'
  len := k.len
  sl := fun i s hs => by
    obtain ⟨ov, e, w⟩ := k.sl i s hs
    refine ⟨ov, e, ?_⟩
    cases s with
    | non => trivial
    | fro d => exact w
    | own d =>
      obtain ⟨a, rfl, ow⟩ := w
      have q : a ≠ p := fun z => t.no ⟨i, d, hs, z ▸ e⟩
      refine ⟨a, rfl, ow.free, ?_, ?_, ow.top⟩
      · rcases ow.mine with z | z
        · exact .inl (by show upd C.H0 p o a = none; rw [upd_ne q]; exact z)
        · exact .inr z
      · show upd C.Fr p o a = none
        rw [upd_ne q]
        exact ow.nfr
    | ro d => exact w
  nd := k.nd
  bor := k.bor
theorem Owned.unprot {a : Addr} {d : D} (h : Owned (C.prot p o) F H a d) : Owned C F H a d ∧ a ≠ p := by
  have n : a ≠ p := by
    rintro rfl
    have := h.nfr
    have h' : upd C.Fr a o a = none := this
    rw [upd_same] at h'
    cases h'
  refine ⟨⟨h.free, ?_, ?_, h.top⟩, n⟩
  · rcases h.mine with z | z
    · have z' : upd C.H0 p o a = none := z
      rw [upd_ne n] at z'
      exact .inl z'
    · exact .inr z
  · have := h.nfr
    have h' : upd C.Fr p o a = none := this
    rw [upd_ne n] at h'
    exact h'
theorem Ok.unprot (k : Ok (C.prot p o) F env σ H) (h0 : C.H0 p = none) (hf : C.Fr p = none) (hfs : Ex C.Fro C.Fr) (hmu : ∀ a ∈ C.mus, C.H0 a ≠ none) : Ok C F env σ H ∧ Temp C F H env σ p o := by
  have own : ∀ (i : Nat) (d : D), env[i]? = some (.own d) → ∃ a, σ[i]? = some (some (.ref a)) ∧ Owned C F H a d ∧ a ≠ p := fun i d h => by
    obtain ⟨a, e, ow⟩ := k.own_at h
    exact ⟨a, e, ow.unprot⟩
  have hp : p ∉ C.mus := fun z => hmu p z h0
  refine ⟨⟨k.ex, fun a u h => ?_, k.fro, hfs, hmu, fun a h hm => ?_, fun a h => ?_, k.len, fun i s hs => ?_, k.nd, k.bor⟩, ?_, ?_, h0, hf, ?_⟩
  · refine k.fr a u ?_
    show upd C.Fr p o a = some u
    rw [upd_ne (ne_of_none h hf)]
    exact h
  · have q : a ≠ p := fun z => h (z ▸ h0)
    have h1 := k.f0 a (by show upd C.H0 p o a ≠ none; rw [upd_ne q]; exact h) hm
    have h2 : F a = if a = p then none else C.F0 a := h1
    rw [if_neg q] at h2
    exact h2
  · have q : a ≠ p := fun z => h (z ▸ h0)
    exact k.st a (by show upd C.H0 p o a ≠ none; rw [upd_ne q]; exact h)
  · cases s with
    | own d =>
      obtain ⟨a, e, ow, _⟩ := own i d hs
      exact ⟨_, e, a, rfl, ow⟩
    | non =>
      obtain ⟨ov, e, w⟩ := k.sl i _ hs
      exact ⟨ov, e, trivial⟩
    | fro d =>
      obtain ⟨ov, e, w⟩ := k.sl i _ hs
      exact ⟨ov, e, w⟩
    | ro d =>
      obtain ⟨ov, e, w⟩ := k.sl i _ hs
      exact ⟨ov, e, w⟩
  · exact k.fr p o (by show upd C.Fr p o p = some o; exact upd_same)
  · have h1 := k.f0 p (by show upd C.H0 p o p ≠ none; rw [upd_same]; exact Option.some_ne_none _) hp
    have h2 : F p = if p = p then none else C.F0 p := h1
    rw [if_pos rfl] at h2
    exact h2
  · rintro ⟨i, d, h1, h2⟩
    obtain ⟨a, e, _, n⟩ := own i d h1
    rw [h2] at e
    cases e
    exact n rfl
theorem Ok.wtemp {o' : HO} (k : Ok C F env σ H) (t : Temp C F H env σ p o) : Ok C F env σ (upd H p o') ∧ Temp C F (upd H p o') env σ p o' := by
  refine ⟨⟨k.ex.updR t.free, k.fr.updR t.nfr, fun a u h => ?_, k.frs, k.mu, k.f0, fun a h => ?_, k.len, fun i s hs => ?_, k.nd, k.bor⟩, upd_same, t.free, t.new, t.nfr, t.no⟩
  · rw [upd_ne (ne_of_none (k.frs a u h) t.nfr)]
    exact k.fro a u h
  · have q : a ≠ p := fun z => h (z ▸ t.new)
    rw [upd_ne q]
    exact k.st a h
  · obtain ⟨ov, e, w⟩ := k.sl i s hs
    refine ⟨ov, e, w.mono (Ex.refl F) fun b d2 ow2 es eo => ⟨ow2.free, upd_ne ?_⟩⟩
    rintro rfl
    subst es
    subst eo
    exact t.no ⟨i, d2, hs, e⟩
theorem Ok.otemp {o : HO} {d : D} (k : Ok C F env σ H) (t : Temp C F H env σ p o) (td : TopD C.K F H p d) : SlRep C F H env σ (.ref p) (.own d) := ⟨p, rfl, ⟨t.free, .inl t.new, t.nfr, td⟩, t.no⟩
end

/-! ### what is walked -/
def Yields (C : FC) (F1 : Hp) (J : It) (ds : List D) : Prop := ∀ (i : Nat) (F H : Hp) (env : En) (σ : L2.St), Ok C F env σ H → Ex F1 F →
  (∀ d, ds[i]? = some d → J.go i H ∧ ∀ x H', J.yld i H x H' → ∃ F', Ex F F' ∧ Ok C F' env σ H' ∧ Rep C.K F' x d ∧ ∀ p o, Temp C F H env σ p o → Temp C F' H' env σ p o) ∧ (ds.length ≤ i → J.stop i H)
/-- a source: the items that it gives -/
def iM (C : FC) (W : WX) (src : En → RS (List D)) : TI := fun σ H R => ∃ F env, Ok C F env σ H ∧ Then C W F σ (src env) fun ds e F' H' => ∀ J, Yields C F' J ds → R J H'
theorem pi_imp {X : Cx} {tg e : Expr} {t t' : TI} (h : PI X tg e t) (i : ∀ σ H R, t' σ H R → t σ H R) : PI X tg e t' := ⟨fun pins s σ H R I q => h.run pins s σ H R I (i σ H R q)⟩
theorem pi_or {X : Cx} {tg e : Expr} {t u : TI} (h1 : PI X tg e t) (h2 : PI X tg e u) : PI X tg e (fun σ H R => t σ H R ∨ u σ H R) := ⟨fun pins s σ H R I q => q.elim (h1.run pins s σ H R I) (h2.run pins s σ H R I)⟩
section
variable {X : Cx} {C : FC} {W : WX} {tg e a b : Expr} {es : List Expr} {pos : Pos} {A B : Opd} {os : List Opd}
theorem yields_lst {F : Hp} {ad : Addr} {vs : List V} {ds : List D} (h : F ad = some (.lst vs)) (r : RepL C.K F vs ds) : Yields C F (Itl C.K ad) ds := fun i F' H env σ k e => by
  have hH : SqL C.K H ad vs := .inl (.inl (k.ex _ _ (e _ _ h)))
  refine ⟨fun d hd => ?_, fun hl => ⟨vs, hH, by rw [r.length]; exact hl⟩⟩
  obtain ⟨v, hv, rv⟩ := r.get hd
  refine ⟨⟨vs, v, hH, hv⟩, fun x H' ⟨e1, e2⟩ => ?_⟩
  subst e1
  have := e2 vs hH
  rw [hv] at this
  cases this
  exact ⟨F', Ex.refl F', k, rv.mono e, fun _ _ t => t⟩
theorem yields_scr {F : Hp} {ad : Addr} {ns : List Int} (h : SqL C.K F ad (ns.map V.int)) : Yields C F (Itl C.K ad) (ns.map D.int) := fun i F' H env σ k e => by
  have hH : SqL C.K H ad (ns.map V.int) := k.ex.l (e.l h)
  refine ⟨fun d hd => ?_, fun hl => ⟨_, hH, by rw [List.length_map] at hl ⊢; exact hl⟩⟩
  rw [List.getElem?_map] at hd
  cases hn : ns[i]? with
  | none => rw [hn] at hd; cases hd
  | some n =>
    rw [hn] at hd
    cases hd
    have hv : (ns.map V.int)[i]? = some (.int n) := by rw [List.getElem?_map, hn] <;> rfl
    refine ⟨⟨_, _, hH, hv⟩, fun x H' ⟨e1, e2⟩ => ?_⟩
    subst e1
    have := e2 _ hH
    rw [hv] at this
    cases this
    exact ⟨F', Ex.refl F', k, .int n, fun _ _ t => t⟩
theorem yields_tup {F : Hp} {ad : Addr} {vs : List V} {ds : List D} (h : SqT C.K F ad vs) (r : RepL C.K F vs ds) : Yields C F (Itt C.K ad) ds := fun i F' H env σ k e => by
  have hH : SqT C.K H ad vs := k.ex.t (e.t h)
  refine ⟨fun d hd => ?_, fun hl => ⟨vs, hH, by rw [r.length]; exact hl⟩⟩
  obtain ⟨v, hv, rv⟩ := r.get hd
  refine ⟨⟨vs, v, hH, hv⟩, fun x H' ⟨e1, e2⟩ => ?_⟩
  subst e1
  have := e2 vs hH
  rw [hv] at this
  cases this
  exact ⟨F', Ex.refl F', k, rv.mono e, fun _ _ t => t⟩
def chrsD (x : Str) : List D := x.cps.toList.map fun c => .str ⟨#[c]⟩
theorem yields_str {F : Hp} {x : Str} : Yields C F (Its x) (chrsD x) := fun i F' H env σ k e => by
  unfold chrsD
  refine ⟨fun d hd => ?_, fun hl => by rw [List.length_map] at hl; exact hl⟩
  rw [List.getElem?_map] at hd
  cases hc : x.cps.toList[i]? with
  | none => rw [hc] at hd; cases hd
  | some c =>
    rw [hc] at hd
    cases hd
    have hc' : x.cps[i]? = some c := by rw [← Array.getElem?_toList]; exact hc
    refine ⟨(Array.getElem?_eq_some_iff.mp hc').1, fun v H' ⟨e1, c', e2, e3⟩ => ?_⟩
    subst e1 e3
    rw [hc'] at e2
    cases e2
    exact ⟨F', Ex.refl F', k, .str _, fun _ _ t => t⟩
def rangeD (lo : Int) (n : Nat) : List D := (List.range n).map fun i : Nat => .int (lo + (i : Int))
theorem yields_range {F : Hp} {lo : Int} {n : Nat} : Yields C F (Itr lo n) (rangeD lo n) := fun i F' H env σ k e => by
  unfold rangeD
  refine ⟨fun d hd => ?_, fun hl => by rw [List.length_map, List.length_range] at hl; exact hl⟩
  rw [List.getElem?_map] at hd
  cases hc : (List.range n)[i]? with
  | none => rw [hc] at hd; cases hd
  | some c =>
    rw [hc] at hd
    cases hd
    obtain ⟨hi, rfl⟩ := List.getElem?_eq_some_iff.mp hc
    rw [List.getElem_range]
    refine ⟨by rw [List.length_range] at hi; exact hi, fun v H' ⟨e1, e2⟩ => ?_⟩
    subst e1 e2
    exact ⟨F', Ex.refl F', k, .int _, fun _ _ t => t⟩
theorem Temp.newF {F H : Hp} {env : En} {σ : L2.St} {p q : Addr} {o u : HO} (hq : H q = none) (t : Temp C F H env σ p o) : Temp C (upd F q u) (upd H q u) env σ p o := by
  have n : p ≠ q := ne_of_none t.at_ hq
  exact ⟨by rw [upd_ne n]; exact t.at_, by rw [upd_ne n]; exact t.free, t.new, t.nfr, t.no⟩
def enumD (ds : List D) : List D := (List.range ds.length).map fun i : Nat => .tup [.int (i : Int), ds.getD i .non]
theorem enumD_get {ds : List D} {i : Nat} {d : D} (h : (enumD ds)[i]? = some d) : ∃ x, ds[i]? = some x ∧ d = .tup [.int (i : Int), x] := by
  unfold enumD at h
  rw [List.getElem?_map] at h
  cases hc : (List.range ds.length)[i]? with
  | none => rw [hc] at h; cases h
  | some c =>
    rw [hc] at h
    cases h
    obtain ⟨hi, rfl⟩ := List.getElem?_eq_some_iff.mp hc
    rw [List.length_range] at hi
    rw [List.getElem_range]
    exact ⟨ds[i], List.getElem?_eq_getElem hi, by show D.tup [.int (i : Int), ds.getD i .non] = _; rw [List.getD_eq_getElem?_getD, List.getElem?_eq_getElem hi] <;> rfl⟩
theorem yields_enum {F : Hp} {ad : Addr} {vs : List V} {ds : List D} (h : F ad = some (.lst vs)) (r : RepL C.K F vs ds) : Yields C F (Ite C.K ad) (enumD ds) := fun i F' H env σ k e => by
  have hH : SqL C.K H ad vs := .inl (.inl (k.ex _ _ (e _ _ h)))
  refine ⟨fun d hd => ?_, fun hl => ⟨vs, hH, by unfold enumD at hl; rw [List.length_map, List.length_range] at hl; rw [r.length]; exact hl⟩⟩
  obtain ⟨x, hx, rfl⟩ := enumD_get hd
  obtain ⟨v, hv, rv⟩ := r.get hx
  refine ⟨⟨vs, v, hH, hv⟩, fun z H' ⟨T, y, e1, e2, e3, e4⟩ => ?_⟩
  subst e1 e3
  have := e4 vs hH
  rw [hv] at this
  cases this
  have e5 := Ex.new (o := .tup [V.int (i : Int), v]) (k.fresh e2)
  exact ⟨_, e5, k.allocF e2, .tup (.inl (.inl upd_same)) (.cons (.int _) (.cons ((rv.mono e).mono e5) .nil)), fun p o t => t.newF e2⟩
def zipD (xs ys : List D) : List D := (xs.zip ys).map fun p => .tup [p.1, p.2]
theorem yields_zip {F : Hp} {ad bd : Addr} {vs ws : List V} {ds es : List D} (h : F ad = some (.lst vs)) (r : RepL C.K F vs ds) (h2 : F bd = some (.lst ws)) (r2 : RepL C.K F ws es) : Yields C F (Itz C.K ad bd) (zipD ds es) := fun i F' H env σ k e => by
  have hH : SqL C.K H ad vs := .inl (.inl (k.ex _ _ (e _ _ h)))
  have hH2 : SqL C.K H bd ws := .inl (.inl (k.ex _ _ (e _ _ h2)))
  unfold zipD
  refine ⟨fun d hd => ?_, fun hl => ⟨vs, ws, hH, hH2, by rw [List.length_map, List.length_zip] at hl; rw [r.length, r2.length]; omega⟩⟩
  rw [List.getElem?_map] at hd
  cases hc : (ds.zip es)[i]? with
  | none => rw [hc] at hd; cases hd
  | some p =>
    rw [hc] at hd
    cases hd
    rw [List.getElem?_zip_eq_some] at hc
    obtain ⟨v, hv, rv⟩ := r.get hc.1
    obtain ⟨w, hw, rw'⟩ := r2.get hc.2
    refine ⟨⟨vs, ws, v, w, hH, hH2, hv, hw⟩, fun z H' ⟨T, y, y2, e1, e2, e3, e4, e5⟩ => ?_⟩
    subst e1 e3
    have q1 := e4 vs hH
    have q2 := e5 ws hH2
    rw [hv] at q1
    rw [hw] at q2
    cases q1
    cases q2
    have e6 := Ex.new (o := .tup [v, w]) (k.fresh e2)
    exact ⟨_, e6, k.allocF e2, .tup (.inl (.inl upd_same)) (.cons ((rv.mono e).mono e6) (.cons ((rw'.mono e).mono e6) .nil)), fun p o t => t.newF e2⟩
end
end M

set_option Elab.async false
set_option linter.all false
set_option maxRecDepth 100000
set_option maxHeartbeats 4000000
namespace M
open PySem PySem.Spec PyProof.Rows L2

section
variable {X : Cx} {C : FC} {W : WX} {tg e a b : Expr} {es : List Expr} {pos : Pos} {A B : Opd} {os : List Opd} {bs : List Nat}
def mSrc (os : List Opd) (f : List Sl → Option (List D)) : En → RS (List D) := fun e => (ops os e).bind fun ss e' => match f ss with
  | some ds => .ok ds e'
  | none => .bad
theorem mSrc_out {f : List Sl → Option (List D)} {σ : L2.St} {H : Hp} {R : It → Hp → Prop} (h : iM C W (mSrc os f) σ H R) :
    ∃ F env, Ok C F env σ H ∧ Then C W F σ (ops os env) fun ss e F' H' => ∃ ds, f ss = some ds ∧ ∀ J, Yields C F' J ds → R J H' := by
  obtain ⟨F, env, k, h⟩ := h
  refine ⟨F, env, k, (show Then C W F σ ((ops os env).bind _) _ from h).bind.imp fun ss e F' H' e1 k1 g => ?_⟩
  cases q : f ss with
  | none =>
    rw [q] at g
    exact g.elim
  | some ds =>
    rw [q] at g
    exact ⟨ds, rfl, g F' H' (Ex.refl F') k1⟩
def srcF : List Sl → Option (List D)
  | [.fro (.lst ds)] => some ds
  | [.fro (.tup ds)] => some ds
  | [.fro (.scr ns)] => some (ns.map .int)
  | [.fro (.str x)] => some (chrsD x)
  | _ => none
theorem srcF_out : ∀ {ss : List Sl} {ds : List D}, srcF ss = some ds → ss = [.fro (.lst ds)] ∨ ss = [.fro (.tup ds)] ∨ (∃ ns, ss = [.fro (.scr ns)] ∧ ds = ns.map .int) ∨ ∃ x, ss = [.fro (.str x)] ∧ ds = chrsD x
  | [.fro (.lst ds)], _, h => .inl (by cases h; rfl)
  | [.fro (.tup ds)], _, h => .inr (.inl (by cases h; rfl))
  | [.fro (.scr ns)], _, h => .inr (.inr (.inl ⟨ns, rfl, by cases h; rfl⟩))
  | [.fro (.str x)], _, h => .inr (.inr (.inr ⟨x, rfl, by cases h; rfl⟩))
/-- for x in a list, a tuple, the script, a text -/
theorem gi_any (hK : C.K = X.K) (h : PE X e (oT C W A)) : PI X tg e (iM C W (mSrc [A] srcF)) := pi_imp (pi_or (pi_list h) (pi_or (pi_tup h) (pi_str h))) fun σ H R q => by
  obtain ⟨F, env, k, h⟩ := mSrc_out q
  have go : ∀ (P : V → Hp → Prop), (∀ ss e F' H', ops [A] env = .ok ss e → Ok C F' e σ H' → (∃ ds, srcF ss = some ds ∧ ∀ J, Yields C F' J ds → R J H') → ∀ vs, ARepO C F' H' e σ [A] vs ss → match vs with | [x] => P x H' | _ => False) → oT C W A σ H P := fun P hP => by
    show oTA C W [A] σ H fun vs H1 => match vs with | [x] => P x H1 | _ => False
    exact ops_run [A] k (h.reach fun ss e F' H' z e1 k1 g vs ra => hP ss e F' H' z k1 g vs ra)
  have dec : (∀ ss e, ops [A] env = .ok ss e → ∃ ds, ss = [.fro (.tup ds)]) ∨ (∀ ss e, ops [A] env = .ok ss e → ∃ x, ss = [.fro (.str x)]) ∨ (∀ ss e, ops [A] env = .ok ss e → (∀ ds, ss ≠ [.fro (.tup ds)]) ∧ ∀ x, ss ≠ [.fro (.str x)]) := by
    cases z : ops [A] env with
    | ok ss e =>
      by_cases h1 : ∃ ds, ss = [.fro (.tup ds)]
      · exact .inl fun _ _ w => by cases w; exact h1
      · by_cases h2 : ∃ x, ss = [.fro (.str x)]
        · exact .inr (.inl fun _ _ w => by cases w; exact h2)
        · exact .inr (.inr fun _ _ w => by cases w; exact ⟨fun ds y => h1 ⟨ds, y⟩, fun x y => h2 ⟨x, y⟩⟩)
    | ex x e => exact .inl fun _ _ w => by cases w
    | bad => exact .inl fun _ _ w => by cases w
  rcases dec with dec | dec | dec
  · refine .inr (.inl (go _ fun ss e F' H' z k1 ⟨ds, hf, g⟩ vs ra => ?_))
    obtain ⟨es0, he0⟩ := dec ss e z
    subst he0
    have hds : ds = es0 := (Option.some.inj hf).symm
    subst hds
    have pr := ra.prep k1
    match vs, pr, ra with
    | [x], .cons p .nil, ra =>
      have r : Rep C.K F' x (.tup ds) := by
        cases ra with
        | val r _ => exact r
        | pk r _ _ _ => exact r
      cases r with
      | tup h1 h2 => exact ⟨_, rfl, ⟨_, hK ▸ k1.ex.t h1⟩, hK ▸ g _ (yields_tup h1 h2)⟩
  · refine .inr (.inr (go _ fun ss e F' H' z k1 ⟨ds, hf, g⟩ vs ra => ?_))
    obtain ⟨x0, rfl⟩ := dec ss e z
    cases hf
    have pr := ra.prep k1
    match vs, pr, ra with
    | [x], .cons p .nil, ra => exact ⟨x0, p.str, g _ yields_str⟩
  · refine .inl (go _ fun ss e F' H' z k1 ⟨ds, hf, g⟩ vs ra => ?_)
    obtain ⟨n1, n2⟩ := dec ss e z
    rcases srcF_out hf with rfl | rfl | ⟨ns, rfl, rfl⟩ | ⟨y, rfl, rfl⟩
    · have key : ∃ x, vs = [x] ∧ Rep C.K F' x (.lst ds) := by
        cases ra with
        | val r ra => cases ra; exact ⟨_, rfl, r⟩
        | pk r _ _ ra => cases ra; exact ⟨_, rfl, r⟩
      obtain ⟨x, rfl, r⟩ := key
      cases r with
      | lst h1 h2 => exact ⟨_, rfl, ⟨_, .inl (.inl (k1.ex _ _ h1))⟩, hK ▸ g _ (yields_lst h1 h2)⟩
    · exact absurd rfl (n1 _)
    · have key : ∃ x, vs = [x] ∧ Rep C.K F' x (.scr ns) := by
        cases ra with
        | val r ra => cases ra; exact ⟨_, rfl, r⟩
        | pk r _ _ ra => cases ra; exact ⟨_, rfl, r⟩
      obtain ⟨x, rfl, r⟩ := key
      cases r with
      | scr h1 => exact ⟨_, rfl, ⟨_, hK ▸ k1.ex.l h1⟩, hK ▸ g _ (yields_scr h1)⟩
    · exact absurd rfl (n2 _)
def rng1 : List Sl → Option (List D)
  | [s] => match s.d with
    | .int n => if -4611686018427387904 ≤ n ∧ n < 4611686018427387904 then some (rangeD 0 n.toNat) else none
    | _ => none
  | _ => none
def rng2 : List Sl → Option (List D)
  | [s, t] => match s.d, t.d with
    | .int i, .int j => if -4611686018427387904 ≤ i ∧ i < 4611686018427387904 ∧ -4611686018427387904 ≤ j ∧ j < 4611686018427387904 then some (rangeD i (j - i).toNat) else none
    | _, _ => none
  | _ => none
theorem gi_range1 {p : Pos} (hg : Gl X "range") (hm : X.mg "range" = none) (ha : PA X [a] (oTA C W [A])) (hs : starEach [a] X.env = [(false, eval a X.env)]) : PI X tg (.Call (.Name "range" p) [a] [] pos) (iM C W (mSrc [A] rng1)) := pi_imp (pi_range1 hg hm ha hs) fun σ H R q => by
  obtain ⟨F, env, k, h⟩ := mSrc_out q
  refine ops_run [A] k (h.imp fun ss e F' H' e1 k1 ⟨ds, hf, g⟩ vs ra => ?_)
  have pr := ra.prep k1
  match ss, vs, pr, hf with
  | [s], [x], .cons p .nil, hf =>
    simp only [rng1] at hf
    cases hd : s.d with
    | int n =>
      rw [hd] at hf p
      simp only at hf
      split at hf
      · rename_i hl
        cases hf
        exact ⟨n, by rw [p.int], hl.1, hl.2, g _ yields_range⟩
      · cases hf
    | _ => rw [hd] at hf; cases hf
theorem gi_range2 {p : Pos} (hg : Gl X "range") (hm : X.mg "range" = none) (ha : PA X [a, b] (oTA C W [A, B])) (hs : starEach [a, b] X.env = [(false, eval a X.env), (false, eval b X.env)]) (hs2 : starEach [b] X.env = [(false, eval b X.env)]) : PI X tg (.Call (.Name "range" p) [a, b] [] pos) (iM C W (mSrc [A, B] rng2)) := pi_imp (pi_range2 hg hm ha hs hs2) fun σ H R q => by
  obtain ⟨F, env, k, h⟩ := mSrc_out q
  refine ops_run [A, B] k (h.imp fun ss e F' H' e1 k1 ⟨ds, hf, g⟩ vs ra => ?_)
  have pr := ra.prep k1
  match ss, vs, pr, hf with
  | [s, t], [x, y], .cons p (.cons p2 .nil), hf =>
    simp only [rng2] at hf
    cases hd : s.d with
    | int n =>
      cases hd2 : t.d with
      | int j =>
        rw [hd] at hf p
        rw [hd2] at hf p2
        simp only at hf
        split at hf
        · rename_i hl
          cases hf
          exact ⟨n, j, by rw [p.int, p2.int], hl, g _ yields_range⟩
        · cases hf
      | _ => rw [hd, hd2] at hf; cases hf
    | _ => rw [hd] at hf; cases hf
def enmF : List Sl → Option (List D)
  | [.fro (.lst ds)] => some (enumD ds)
  | _ => none
theorem enmF_out : ∀ {ss : List Sl} {ds : List D}, enmF ss = some ds → ∃ es, ss = [.fro (.lst es)] ∧ ds = enumD es
  | [.fro (.lst es)], _, h => ⟨es, rfl, (Option.some.inj h).symm⟩
theorem gi_enum {p tpos : Pos} {elts : List Expr} {kk : Nat} (hK : C.K = X.K) (hg : Gl X "enumerate") (hm : X.mg "enumerate" = none) (ha : PA X [a] (oTA C W [A])) (hs : starEach [a] X.env = [(false, eval a X.env)]) : PI X (.Tuple elts kk tpos) (.Call (.Name "enumerate" p) [a] [] pos) (iM C W (mSrc [A] enmF)) := pi_imp (pi_enum hg hm ha hs) fun σ H R q => by
  obtain ⟨F, env, k, h⟩ := mSrc_out q
  refine ops_run [A] k (h.imp fun ss e F' H' e1 k1 ⟨ds, hf, g⟩ vs ra => ?_)
  · obtain ⟨es, rfl, rfl⟩ := enmF_out hf
    have key : ∃ x, vs = [x] ∧ Rep C.K F' x (.lst es) := by
      cases ra with
      | val r ra => cases ra; exact ⟨_, rfl, r⟩
      | pk r _ _ ra => cases ra; exact ⟨_, rfl, r⟩
    obtain ⟨x, rfl, r⟩ := key
    cases r with
    | lst h1 h2 => exact ⟨_, _, rfl, .inl (.inl (k1.ex _ _ h1)), hK ▸ g _ (yields_enum h1 h2)⟩
def zipF : List Sl → Option (List D)
  | [.fro (.lst ds), .fro (.lst es)] => some (zipD ds es)
  | _ => none
theorem zipF_out : ∀ {ss : List Sl} {ds : List D}, zipF ss = some ds → ∃ es fs, ss = [.fro (.lst es), .fro (.lst fs)] ∧ ds = zipD es fs
  | [.fro (.lst es), .fro (.lst fs)], _, h => ⟨es, fs, rfl, (Option.some.inj h).symm⟩
theorem gi_zip {p tpos : Pos} {elts : List Expr} {kk : Nat} (hK : C.K = X.K) (hg : Gl X "zip") (hm : X.mg "zip" = none) (ha : PA X [a, b] (oTA C W [A, B])) (hs : starEach [a, b] X.env = (false, eval a X.env) :: starEach [b] X.env) (hp : (backTo pos (starEach [b] X.env)).any (·.1) = false) : PI X (.Tuple elts kk tpos) (.Call (.Name "zip" p) [a, b] [] pos) (iM C W (mSrc [A, B] zipF)) := pi_imp (pi_zip hg hm ha hs hp) fun σ H R q => by
  obtain ⟨F, env, k, h⟩ := mSrc_out q
  refine ops_run [A, B] k (h.imp fun ss e F' H' e1 k1 ⟨ds, hf, g⟩ vs ra => ?_)
  · obtain ⟨es, fs, rfl, rfl⟩ := zipF_out hf
    have key : ∃ x y, vs = [x, y] ∧ Rep C.K F' x (.lst es) ∧ Rep C.K F' y (.lst fs) := by
      cases ra with
      | val r ra =>
        cases ra with
        | val r2 ra => cases ra; exact ⟨_, _, rfl, r, r2⟩
        | pk r2 _ _ ra => cases ra; exact ⟨_, _, rfl, r, r2⟩
      | pk r _ _ ra =>
        cases ra with
        | val r2 ra => cases ra; exact ⟨_, _, rfl, r, r2⟩
        | pk r2 _ _ ra => cases ra; exact ⟨_, _, rfl, r, r2⟩
    obtain ⟨x, y, rfl, r, r2⟩ := key
    cases r with
    | lst h1 h2 =>
      cases r2 with
      | lst h3 h4 => exact ⟨_, _, _, _, rfl, .inl (.inl (k1.ex _ _ h1)), .inl (.inl (k1.ex _ _ h3)), hK ▸ g _ (yields_zip h1 h2 h3 h4)⟩

/-! ### targets -/
def TgOk (C : FC) (g : TG) (tgt : D → En → Option En) (js : List Nat) : Prop := ∀ (F H : Hp) (env e1 : En) (σ : L2.St) (x : V) (d : D) (Q : L2.St → Hp → Prop), Ok C F env σ H → Rep C.K F x d → tgt d env = some e1 →
  (∀ σ' : L2.St, Ok C F e1 σ' H → σ'.length = σ.length → (∀ i : Nat, i ∉ js → σ'[i]? = σ[i]?) → (∀ (i : Nat) (d : D), e1[i]? = some (.own d) → i ∉ js ∧ env[i]? = some (.own d)) → Q σ' H) → g x σ H Q
def tgN (j : Nat) : D → En → Option En := fun d e => some (e.set j (.fro d))
def tgT (is : List Nat) : D → En → Option En := fun d e => match d with
  | .tup ds => if ds.length = is.length then some (setAll is ds e) else none
  | _ => none
theorem ne_bs {i : Nat} (hb : ∀ q ∈ C.bor, q.1 ∈ bs) (hi : bs.contains i = false) : ∀ q ∈ C.bor, q.1 ≠ i := fun q hq z => by
  have := hb q hq
  rw [z] at this
  rw [List.contains_iff_mem.mpr this] at hi
  cases hi
theorem tgN_ok {j : Nat} (hb : ∀ q ∈ C.bor, q.1 ∈ bs) (hi : bs.contains j = false) : TgOk C (gName j) (tgN j) [j] := fun F H env e1 σ x d Q k r h q => by
  cases h
  refine q _ (k.asg j (ne_bs hb hi) (s := .fro d) r) (by rw [List.length_set]) (fun i hi => ?_) (fun i d' hd => ?_)
  · rw [List.mem_singleton] at hi
    exact List.getElem?_set_ne (Ne.symm hi)
  · by_cases z : i = j
    · subst z
      cases get_set_self hd
    · rw [List.getElem?_set_ne (Ne.symm z)] at hd
      exact ⟨by rw [List.mem_singleton]; exact z, hd⟩
theorem gNames_run2 (hb : ∀ q ∈ C.bor, q.1 ∈ bs) : ∀ (is : List Nat) {ds : List D} {vs : List V} {F H : Hp} {env : En} {σ : L2.St} {Q : L2.St → Hp → Prop}, (∀ i ∈ is, bs.contains i = false) → Ok C F env σ H → RepL C.K F vs ds → ds.length = is.length →
    (∀ σ' : L2.St, Ok C F (setAll is ds env) σ' H → σ'.length = σ.length → (∀ i : Nat, i ∉ is → σ'[i]? = σ[i]?) → (∀ (i : Nat) (d : D), (setAll is ds env)[i]? = some (.own d) → i ∉ is ∧ env[i]? = some (.own d)) → Q σ' H) → gNames is vs σ H Q
  | [], [], _, F, H, env, σ, Q, hi, k, .nil, hl, q => ⟨rfl, q σ k rfl (fun _ _ => rfl) fun i d h => ⟨List.not_mem_nil, h⟩⟩
  | j :: is, d :: ds, _, F, H, env, σ, Q, hi, k, .cons (v := v) r rr, hl, q => by
    refine ⟨_, _, rfl, gNames_run2 hb is (fun i hj => hi i (List.mem_cons_of_mem _ hj)) (k.asg j (ne_bs hb (hi j List.mem_cons_self)) (s := .fro d) (v := v) r) rr (by simpa using hl) fun σ' k' hl' h1 h2 => q σ' k' (by rw [hl', List.length_set]) (fun i hi' => ?_) fun i d' hd => ?_⟩
    · rw [List.mem_cons, not_or] at hi'
      rw [h1 i hi'.2, List.getElem?_set_ne (Ne.symm hi'.1)]
    · obtain ⟨n1, h3⟩ := h2 i d' hd
      by_cases z : i = j
      · subst z
        cases get_set_self h3
      · rw [List.getElem?_set_ne (Ne.symm z)] at h3
        exact ⟨by rw [List.mem_cons, not_or]; exact ⟨z, n1⟩, h3⟩
  | [], _ :: _, _, F, H, env, σ, Q, hi, k, _, hl, q => by cases hl
  | _ :: _, [], _, F, H, env, σ, Q, hi, k, _, hl, q => by cases hl
theorem tgT_ok {is : List Nat} (hb : ∀ q ∈ C.bor, q.1 ∈ bs) (hi : is.all (fun i => !bs.contains i) = true) : TgOk C (gTup C.K is.length (gNames is)) (tgT is) is := fun F H env e1 σ x d Q k r h q => by
  unfold tgT at h
  split at h
  · split at h
    · rename_i ds hl
      cases h
      cases r with
      | tup hS rr => exact ⟨_, _, rfl, k.ex.t hS, by rw [rr.length, hl], gNames_run2 hb is (fun i hi' => by
            have := List.all_eq_true.mp hi i hi'
            simpa using this) k rr hl fun σ' k2 hl' h1 h2 => q σ' k2 hl' h1 h2⟩
    · cases h
  · cases h

/-! ### for -/
def forL (tgt : D → En → Option En) (body : En → Out) : List D → En → Out
  | [], e => .nx e
  | d :: r, e => match tgt d e with
    | some e1 => match body e1 with
      | .nx e2 => forL tgt body r e2
      | .ct e2 => forL tgt body r e2
      | .bk e2 => .nx e2
      | .rt s e2 => .rt s e2
      | .ex x e2 => .ex x e2
      | .bad => .bad
    | none => .bad
def mFor (src : En → RS (List D)) (tgt : D → En → Option En) (body : En → Out) : En → Out := fun e => match src e with
  | .ok ds e' => forL tgt body ds e'
  | .ex x e' => .ex x e'
  | .bad => .bad
theorem gs_for {body : List Stmt} {src : En → RS (List D)} {tgt : D → En → Option En} {g : TG} {mb : En → Out} {js : List Nat} (hp : PassesOwn (model X.prog X.w) X.A X.env X.xe) (hc : X.calm = true) (hi : PI X tg e (iM C W src)) (hg : PG X tg g) (ht : TgOk C g tgt js) (hb : PSs X body (tMS C W mb)) (hs : ∀ x, foldedSetIterable e X.env x = pure x) :
    PS X (.For tg e body [] pos) (tMS C W (mFor src tgt mb)) := ps_imp (ps_for hp hc hi hg hb hs) fun D σ H ⟨F, env, k, h⟩ => by
  refine ⟨F, env, k, ?_⟩
  unfold mFor at h
  cases hsrc : src env with
  | bad => rw [hsrc] at h; exact h
  | ex x e' =>
    rw [hsrc] at h
    exact fun cls d F' H' k1 xr => h cls d F' σ H' k1 xr
  | ok ds e' =>
    rw [hsrc] at h
    intro F' H' e1 k1 J hy
    have hR : ThenS C W F' D (forL tgt mb ds e') := ThenS.mono e1 h
    generalize hRe : forL tgt mb ds e' = R at hR
    refine ⟨fun i m σ H => m = ds.length - i ∧ i ≤ ds.length ∧ ∃ F2 env2, Ok C F2 env2 σ H ∧ Ex F' F2 ∧ forL tgt mb (ds.drop i) env2 = R, ⟨ds.length, rfl, Nat.zero_le _, F', e', k1, Ex.refl F', hRe⟩, ?_⟩
    rintro i m σ2 H2 ⟨rfl, hi2, F2, env2, k2, e2, hL⟩
    obtain ⟨y1, y2⟩ := hy i F2 H2 env2 σ2 k2 e2
    by_cases hlt : i < ds.length
    · obtain ⟨go, yl⟩ := y1 ds[i] (List.getElem?_eq_getElem hlt)
      rw [List.drop_eq_getElem_cons hlt] at hL
      refine .inr ⟨go, fun σ' H' => ∃ F4 env4, Ok C F4 env4 σ' H' ∧ Ex F' F4 ∧ forL tgt mb (ds.drop (i + 1)) env4 = R, fun σ' H' ⟨F4, env4, k4, e4, q4⟩ => ⟨ds.length - (i + 1), by omega, rfl, by omega, F4, env4, k4, e4, q4⟩, fun x H3 hx => ?_⟩
      obtain ⟨F3, e3, k3, r3, _⟩ := yl x H3 hx
      unfold forL at hL
      cases htg : tgt ds[i] env2 with
      | none =>
        rw [htg] at hL
        rw [← hL] at hR
        exact hR.elim
      | some e5 =>
        rw [htg] at hL
        simp only at hL
        refine ht F3 H3 env2 e5 σ2 x ds[i] _ k3 r3 htg fun σ5 k5 _ _ _ => ⟨F3, e5, k5, ?_⟩
        have e13 : Ex F' F3 := e2.trans e3
        cases hbd : mb e5 with
        | nx e6 =>
          rw [hbd] at hL
          exact fun F6 σ6 H6 x6 k6 => ⟨F6, e6, k6, e13.trans x6, hL⟩
        | ct e6 =>
          rw [hbd] at hL
          exact fun F6 σ6 H6 x6 k6 => ⟨F6, e6, k6, e13.trans x6, hL⟩
        | bk e6 =>
          rw [hbd] at hL
          rw [← hL] at hR
          exact fun F6 σ6 H6 x6 k6 => hR F6 σ6 H6 (e13.trans x6) k6
        | rt s e6 =>
          rw [hbd] at hL
          rw [← hL] at hR
          exact fun v F6 σ6 H6 x6 k6 r6 => hR v F6 σ6 H6 (e13.trans x6) k6 r6
        | ex y e6 =>
          rw [hbd] at hL
          rw [← hL] at hR
          exact hR
        | bad =>
          rw [hbd] at hL
          rw [← hL] at hR
          exact hR
    · have hi3 : i = ds.length := by omega
      subst hi3
      rw [List.drop_length] at hL
      have hL' : Out.nx env2 = R := hL
      rw [← hL'] at hR
      exact .inl ⟨y2 (Nat.le_refl _), hR F2 σ2 H2 e2 k2⟩

/-! ### while -/
def mWhile (mc : En → RS Bool) (body : En → Out) : Nat → En → Out
  | 0, _ => .bad
  | n + 1, e => match mc e with
    | .ok false e1 => .nx e1
    | .ok true e1 => match body e1 with
      | .nx e2 => mWhile mc body n e2
      | .ct e2 => mWhile mc body n e2
      | .bk e2 => .nx e2
      | .rt s e2 => .rt s e2
      | .ex x e2 => .ex x e2
      | .bad => .bad
    | .ex x e1 => .ex x e1
    | .bad => .bad
theorem gs_while {c : Expr} {body : List Stmt} {mc : En → RS Bool} {mb : En → Out} {n : Nat} (hp : PassesOwn (model X.prog X.w) X.A X.env X.xe) (hc : PT X c (tMT C W mc)) (hb : PSs X body (tMS C W mb)) :
    PS X (.While c body [] pos) (tMS C W (mWhile mc mb n)) := ps_imp (ps_while hp hc hb) fun D σ H ⟨F, env, k, h⟩ => by
  generalize hRe : mWhile mc mb n env = R at h
  refine ⟨fun m σ H => ∃ F2 env2, Ok C F2 env2 σ H ∧ Ex F F2 ∧ mWhile mc mb m env2 = R, ⟨n, F, env, k, Ex.refl F, hRe⟩, ?_⟩
  rintro m σ2 H2 ⟨F2, env2, k2, e2, hL⟩
  cases m with
  | zero =>
    have hL' : Out.bad = R := hL
    rw [← hL'] at h
    exact h.elim
  | succ m =>
    unfold mWhile at hL
    cases hmc : mc env2 with
    | bad =>
      rw [hmc] at hL
      rw [← hL] at h
      exact h.elim
    | ex x e1 =>
      rw [hmc] at hL
      rw [← hL] at h
      refine ⟨F2, env2, k2, ?_⟩
      rw [hmc]
      exact fun cls d F' H' k1 xr => h cls d F' σ2 H' k1 xr
    | ok b e1 =>
      refine ⟨F2, env2, k2, ?_⟩
      rw [hmc]
      intro F3 H3 e3 k3
      rw [hmc] at hL
      cases b with
      | false =>
        have hL' : Out.nx e1 = R := hL
        rw [← hL'] at h
        exact h F3 σ2 H3 (e2.trans e3) k3
      | true =>
        simp only at hL
        have e13 := e2.trans e3
        refine ⟨fun σ' H' => ∃ F4 env4, Ok C F4 env4 σ' H' ∧ Ex F F4 ∧ mWhile mc mb m env4 = R, fun σ' H' q => ⟨m, Nat.lt_succ_self m, q⟩, F3, e1, k3, ?_⟩
        cases hbd : mb e1 with
        | nx e6 =>
          rw [hbd] at hL
          exact fun F6 σ6 H6 x6 k6 => ⟨F6, e6, k6, e13.trans x6, hL⟩
        | ct e6 =>
          rw [hbd] at hL
          exact fun F6 σ6 H6 x6 k6 => ⟨F6, e6, k6, e13.trans x6, hL⟩
        | bk e6 =>
          rw [hbd] at hL
          rw [← hL] at h
          exact fun F6 σ6 H6 x6 k6 => h F6 σ6 H6 (e13.trans x6) k6
        | rt s e6 =>
          rw [hbd] at hL
          rw [← hL] at h
          exact fun v F6 σ6 H6 x6 k6 r6 => h v F6 σ6 H6 (e13.trans x6) k6 r6
        | ex y e6 =>
          rw [hbd] at hL
          rw [← hL] at h
          exact h
        | bad =>
          rw [hbd] at hL
          rw [← hL] at h
          exact h
end
end M

set_option Elab.async false
set_option linter.all false
set_option maxRecDepth 100000
set_option maxHeartbeats 4000000
namespace M
open PySem PySem.Spec PyProof.Rows L2

def wipeE (e : En) : List Nat → En
  | [] => e
  | v :: vs => (wipeE e vs).set v .non
section
variable {C : FC} {F H : Hp} {env : En} {σ : L2.St} {p : Addr} {o : HO}
theorem wipeE_get {vs : List Nat} : ∀ {i : Nat} {s : Sl}, (wipeE env vs)[i]? = some s → (i ∈ vs ∧ s = .non) ∨ (i ∉ vs ∧ env[i]? = some s) := by
  induction vs with
  | nil => exact fun h => .inr ⟨List.not_mem_nil, h⟩
  | cons v vs ih =>
    intro i s h
    by_cases z : v = i
    · subst z
      exact .inl ⟨List.mem_cons_self, get_set_self h⟩
    · have h' : ((wipeE env vs).set v .non)[i]? = some s := h
      rw [List.getElem?_set_ne z] at h'
      rcases ih h' with ⟨h1, h2⟩ | ⟨h1, h2⟩
      · exact .inl ⟨List.mem_cons_of_mem _ h1, h2⟩
      · exact .inr ⟨by rw [List.mem_cons, not_or]; exact ⟨fun q => z q.symm, h1⟩, h2⟩
theorem wipeE_len (vs : List Nat) : (wipeE env vs).length = env.length := by
  induction vs with
  | nil => rfl
  | cons v vs ih => show ((wipeE env vs).set v .non).length = _; rw [List.length_set, ih]
theorem wipe_out {vs : List Nat} {i : Nat} (h : i ∉ vs) : (wipe σ vs)[i]? = σ[i]? := by
  induction vs with
  | nil => rfl
  | cons v vs ih =>
    rw [List.mem_cons, not_or] at h
    show ((wipe σ vs).set v none)[i]? = _
    rw [List.getElem?_set_ne (Ne.symm h.1), ih h.2]
theorem wipe_in {vs : List Nat} {i : Nat} (h : i ∈ vs) (hl : i < σ.length) : (wipe σ vs)[i]? = some none := by
  induction vs with
  | nil => cases h
  | cons v vs ih =>
    show ((wipe σ vs).set v none)[i]? = _
    by_cases z : v = i
    · subst z
      rw [List.getElem?_set_self (by rw [wipe_length]; exact hl)]
    · rw [List.getElem?_set_ne z]
      rcases List.mem_cons.mp h with q | q
      · exact absurd q.symm z
      · exact ih q
theorem wipe_eq {σ' : L2.St} {vs js : List Nat} (hl : σ'.length = σ.length) (hj : ∀ j ∈ js, j ∈ vs) (h : ∀ i : Nat, i ∉ js → σ'[i]? = σ[i]?) : wipe σ' vs = wipe σ vs := by
  refine List.ext_getElem? fun i => ?_
  by_cases z : i ∈ vs
  · by_cases y : i < σ.length
    · rw [wipe_in z y, wipe_in z (by omega)]
    · rw [List.getElem?_eq_none (by rw [wipe_length]; omega), List.getElem?_eq_none (by rw [wipe_length]; omega)]
  · rw [wipe_out z, wipe_out z]
    exact h i fun q => z (hj i q)
theorem wipe_wipe {vs : List Nat} : wipe (wipe σ vs) vs = wipe σ vs := wipe_eq (js := vs) (by rw [wipe_length]) (fun _ h => h) fun i hi => wipe_out hi
theorem IsOwn.unwipe {vs : List Nat} (h : IsOwn (wipeE env vs) (wipe σ vs) p) : IsOwn env σ p := by
  obtain ⟨i, d, h1, h2⟩ := h
  rcases wipeE_get h1 with ⟨_, z⟩ | ⟨n, h3⟩
  · cases z
  · rw [wipe_out n] at h2
    exact ⟨i, d, h3, h2⟩
theorem Ok.wipe (k : Ok C F env σ H) (vs : List Nat) (hb : ∀ q ∈ C.bor, q.1 ∉ vs) : Ok C F (wipeE env vs) (wipe σ vs) H := by
  refine ⟨k.ex, k.fr, k.fro, k.frs, k.mu, k.f0, k.st, by rw [wipeE_len, wipe_length]; exact k.len, fun i s hs => ?_, fun i j d d' a h1 h2 h3 h4 => ?_, fun q hq => ?_⟩
  · have hl : i < σ.length := by
      have := (List.getElem?_eq_some_iff.mp hs).1
      rw [wipeE_len, k.len] at this
      exact this
    rcases wipeE_get hs with ⟨h1, rfl⟩ | ⟨n, h3⟩
    · exact ⟨_, wipe_in h1 hl, trivial⟩
    · rw [wipe_out n]
      exact k.sl i s h3
  · rcases wipeE_get h1 with ⟨_, z⟩ | ⟨n1, g1⟩
    · cases z
    · rcases wipeE_get h2 with ⟨_, z⟩ | ⟨n2, g2⟩
      · cases z
      · rw [wipe_out n1] at h3
        rw [wipe_out n2] at h4
        exact k.nd i j d d' a g1 g2 h3 h4
  · rw [wipe_out (hb q hq)]
    exact k.bor q hq
theorem Ok.unwipe {e0 : En} {vs : List Nat} (k : Ok C F (wipeE e0 vs) (L2.wipe σ vs) H) (hb : ∀ q ∈ C.bor, q.1 ∉ vs) : Ok C F (wipeE e0 vs) σ H := by
  refine ⟨k.ex, k.fr, k.fro, k.frs, k.mu, k.f0, k.st, by rw [k.len, wipe_length], fun i s hs => ?_, fun i j d d' a h1 h2 h3 h4 => ?_, fun q hq => ?_⟩
  · rcases wipeE_get hs with ⟨h1, rfl⟩ | ⟨n, h3⟩
    · have hl : i < σ.length := by
        have := (List.getElem?_eq_some_iff.mp hs).1
        rw [k.len, wipe_length] at this
        exact this
      exact ⟨σ[i], List.getElem?_eq_getElem hl, trivial⟩
    · obtain ⟨ov, e, w⟩ := k.sl i s hs
      rw [wipe_out n] at e
      exact ⟨ov, e, w⟩
  · rcases wipeE_get h1 with ⟨_, z⟩ | ⟨n1, g1⟩
    · cases z
    · rcases wipeE_get h2 with ⟨_, z⟩ | ⟨n2, g2⟩
      · cases z
      · exact k.nd i j d d' a h1 h2 (by rw [wipe_out n1]; exact h3) (by rw [wipe_out n2]; exact h4)
  · have := k.bor q hq
    rw [wipe_out (hb q hq)] at this
    exact this
theorem IsOwn.rewipe {e0 : En} {vs : List Nat} (h : IsOwn (wipeE e0 vs) σ p) : IsOwn (wipeE e0 vs) (L2.wipe σ vs) p := by
  obtain ⟨i, d, h1, h2⟩ := h
  rcases wipeE_get h1 with ⟨_, z⟩ | ⟨n, h3⟩
  · cases z
  · exact ⟨i, d, h1, by rw [wipe_out n]; exact h2⟩
end

/-! ### list comprehensions -/
abbrev W0 : WX := fun _ _ _ _ => False
def RS.bindN {α β : Type} (r : RS α) (f : α → En → RS β) : RS β := match r with
  | .ok a e => f a e
  | _ => .bad
def lcL (tgt : D → En → Option En) (mc : En → RS Bool) (me : En → RS Sl) (vs : List Nat) : List D → En → List D → RS Sl
  | [], e, acc => .ok (.own (.lst acc)) e
  | d :: r, e, acc => match tgt d e with
    | some e1 => (mc e1).bindN fun b e2 => match b with
      | true => (me e2).bindN fun s e3 => match s.sh with
        | .fro x => if acc.length < 16777216 then lcL tgt mc me vs r (wipeE e3 vs) (acc ++ [x]) else .bad
        | _ => .bad
      | false => lcL tgt mc me vs r (wipeE e2 vs) acc
    | none => .bad
def mLc (src : En → RS (List D)) (tgt : D → En → Option En) (mc : En → RS Bool) (me : En → RS Sl) (vs : List Nat) : En → RS Sl := fun e => (src e).bind fun ds e' => lcL tgt mc me vs ds (wipeE e' vs) []
/-- a test in a block, whatever is kept apart -/
def TtOk (C : FC) (tt : TT) (mc : En → RS Bool) : Prop := ∀ (C' : FC) (F H : Hp) (env : En) (σ : L2.St) (Q : Bool → Hp → Prop), C'.K = C.K → C'.ca = C.ca → Ok C' F env σ H → Then C' W0 F σ (mc env) (fun b _ _ H' => Q b H') → tt σ H Q
def mYes : En → RS Bool := fun e => .ok true e
theorem ttYes {C : FC} : TtOk C tYes mYes := fun C' F H env σ Q _ _ k h => h F H (Ex.refl F) k
def tMTx (K : PySem.W.Frag) (ca : Str → Addr) (mc : En → RS Bool) : TT := fun σ H Q => ∃ C' : FC, C'.K = K ∧ C'.ca = ca ∧ tMT C' W0 mc σ H Q
def tMx (K : PySem.W.Frag) (ca : Str → Addr) (m : En → RS Sl) : TE := fun σ H Q => ∃ C' : FC, C'.K = K ∧ C'.ca = ca ∧ tM C' W0 m σ H Q
theorem ttMx {C : FC} {mc : En → RS Bool} : TtOk C (tMTx C.K C.ca mc) mc := fun C' F H env σ Q h1 h2 k h => ⟨C', h1, h2, tMT_then k h⟩
theorem pe_x {X : Cx} {K : PySem.W.Frag} {ca : Str → Addr} {e : Expr} {m : En → RS Sl} (h : ∀ C' : FC, C'.K = K → C'.ca = ca → PE X e (tM C' W0 m)) : PE X e (tMx K ca m) := ⟨fun pins s σ H Q I ⟨C', h1, h2, q⟩ => (h C' h1 h2).run pins s σ H Q I q⟩
theorem pt_x {X : Cx} {K : PySem.W.Frag} {ca : Str → Addr} {e : Expr} {m : En → RS Bool} (h : ∀ C' : FC, C'.K = K → C'.ca = ca → PT X e (tMT C' W0 m)) : PT X e (tMTx K ca m) := ⟨fun pins s σ H Q I ⟨C', h1, h2, q⟩ => (h C' h1 h2).run pins s σ H Q I q⟩
theorem Then.bindN {α β : Type} {C : FC} {W : WX} {F : Hp} {σ : L2.St} {r : RS α} {f : α → En → RS β} {P : β → En → Hp → Hp → Prop} (h : Then C W F σ (r.bindN f) P) : ∃ a e, r = .ok a e ∧ Then C W F σ (f a e) P := by
  cases r with
  | ok a e => exact ⟨a, e, rfl, h⟩
  | ex x e => exact h.elim
  | bad => exact h.elim
section
variable {X : Cx} {C : FC} {W : WX} {tg iter elt : Expr} {ifs : List Expr} {pos : Pos} {src : En → RS (List D)} {tgt : D → En → Option En} {mc : En → RS Bool} {me : En → RS Sl} {vs js bs : List Nat} {g : TG} {tt : TT}
theorem lc_run {σ : L2.St} {H : Hp} {Q : VK} (hb : ∀ q ∈ C.bor, q.1 ∈ bs) (hv : vs.all (fun i => !bs.contains i) = true) (hj : js.all (fun j => vs.contains j) = true) (ht : TgOk C g tgt js) (hc : TtOk C tt mc) (h : tM C W (mLc src tgt mc me vs) σ H Q) : tLc (iM C W src) g tt (tMx C.K C.ca me) vs σ H Q := by
  have hbv : ∀ q ∈ C.bor, q.1 ∉ vs := fun q hq z => by
    have h1 := hb q hq
    have h2 := List.all_eq_true.mp hv _ z
    rw [Bool.not_eq_true', List.contains_iff_mem.mpr h1] at h2
    cases h2
  have hjv : ∀ j ∈ js, j ∈ vs := fun j z => List.contains_iff_mem.mp (List.all_eq_true.mp hj _ z)
  obtain ⟨F, env, k, h⟩ := tM_out h
  refine ⟨F, env, k, (show Then C W F σ ((src env).bind _) _ from h).bind.imp fun ds e1 F1 H1 _ k1 hq J hy Da hD => ?_⟩
  generalize hRe : lcL tgt mc me vs ds (wipeE e1 vs) [] = R at hq
  have k2 : Ok C F1 e1 σ (upd H1 Da (.lst [])) := k1.alloc hD
  have t2 := k1.temp (o := .lst []) hD
  refine ⟨fun i m H => m = ds.length - i ∧ i ≤ ds.length ∧ ∃ F2 e0 acc accV, Ok C F2 (wipeE e0 vs) (L2.wipe σ vs) H ∧ Ex F1 F2 ∧ Temp C F2 H (wipeE e0 vs) (L2.wipe σ vs) Da (.lst accV) ∧ RepL C.K F2 accV acc ∧ lcL tgt mc me vs (ds.drop i) (wipeE e0 vs) acc = R,
    ⟨ds.length, rfl, Nat.zero_le _, F1, e1, [], [], k2.wipe vs hbv, Ex.refl F1, ⟨t2.at_, t2.free, t2.new, t2.nfr, fun z => t2.no z.unwipe⟩, .nil, hRe⟩, ?_⟩
  rintro i m H2 ⟨rfl, hi2, F2, e0, acc, accV, k3, x12, t3, ra, hL⟩
  obtain ⟨y1, y2⟩ := hy i F2 H2 (wipeE e0 vs) (L2.wipe σ vs) k3 x12
  by_cases hlt : i < ds.length
  · obtain ⟨go, yl⟩ := y1 ds[i] (List.getElem?_eq_getElem hlt)
    rw [List.drop_eq_getElem_cons hlt] at hL
    refine .inr ⟨go, fun H' => ∃ F4 e4 acc4 accV4, Ok C F4 (wipeE e4 vs) (L2.wipe σ vs) H' ∧ Ex F1 F4 ∧ Temp C F4 H' (wipeE e4 vs) (L2.wipe σ vs) Da (.lst accV4) ∧ RepL C.K F4 accV4 acc4 ∧ lcL tgt mc me vs (ds.drop (i + 1)) (wipeE e4 vs) acc4 = R,
      fun H' ⟨F4, e4, acc4, accV4, q1, q2, q3, q4, q5⟩ => ⟨ds.length - (i + 1), by omega, rfl, by omega, F4, e4, acc4, accV4, q1, q2, q3, q4, q5⟩, fun x H3 hx => ?_⟩
    obtain ⟨F3, x23, k4, r4, tk⟩ := yl x H3 hx
    have t4 := tk Da _ t3
    unfold lcL at hL
    cases htg : tgt ds[i] (wipeE e0 vs) with
    | none =>
      rw [htg] at hL
      rw [← hL] at hq
      exact hq.elim
    | some e5 =>
      rw [htg] at hL
      simp only at hL
      refine ht F3 H3 _ e5 _ x ds[i] _ k4 r4 htg fun σ5 k5 hlen hσ hown => ?_
      have hw : L2.wipe σ5 vs = L2.wipe σ vs := (wipe_eq hlen hjv hσ).trans wipe_wipe
      have t5 : Temp C F3 H3 e5 σ5 Da (.lst accV) := ⟨t4.at_, t4.free, t4.new, t4.nfr, fun ⟨i', d', h1, h2⟩ => by
        obtain ⟨n1, h3⟩ := hown i' d' h1
        rw [hσ i' n1] at h2
        exact t4.no ⟨i', d', h3, h2⟩⟩
      refine ⟨hw, ?_⟩
      have kp := k5.prot t5
      rw [← hL] at hq
      obtain ⟨b, e6, hmc, hq2⟩ := hq.bindN
      rw [hmc] at hL
      refine hc (C.prot Da (.lst accV)) F3 H3 e5 σ5 _ rfl rfl kp ?_
      rw [hmc]
      intro F6 H6 x36 k6
      cases b with
      | false =>
        show (if false = true then _ else _)
        rw [if_neg Bool.false_ne_true]
        obtain ⟨k7, t7⟩ := k6.unprot t5.new t5.nfr k5.frs k5.mu
        refine ⟨F6, e6, acc, accV, hw ▸ k7.wipe vs hbv, (x12.trans x23).trans x36, ⟨t7.at_, t7.free, t7.new, t7.nfr, fun z => t7.no (hw ▸ z : IsOwn (wipeE e6 vs) (L2.wipe σ5 vs) Da).unwipe⟩, (ra.mono x23).mono x36, hL⟩
      | true =>
        show (if true = true then _ else _)
        rw [if_pos rfl]
        obtain ⟨s, e7, hme, hq3⟩ := hq2.bindN
        have hL2 : (me e6).bindN _ = R := hL
        rw [hme] at hL2
        refine ⟨C.prot Da (.lst accV), rfl, rfl, tM_then k6 ?_⟩
        rw [hme]
        intro F7 H7 x67 k7 v r7
        obtain ⟨F8, x78, k8, r8⟩ := r7.used k7
        obtain ⟨k9, t9⟩ := k8.unprot t5.new t5.nfr k5.frs k5.mu
        have hL3 : (match s.sh with | .fro x => if acc.length < 16777216 then lcL tgt mc me vs (ds.drop (i + 1)) (wipeE e7 vs) (acc ++ [x]) else .bad | _ => .bad) = R := hL2
        have hq4 : Then C W F1 σ (match s.sh with | .fro x => if acc.length < 16777216 then lcL tgt mc me vs (ds.drop (i + 1)) (wipeE e7 vs) (acc ++ [x]) else .bad | _ => .bad) _ := hq3
        cases hs : s.sh with
        | fro y =>
          rw [hs] at hL3 hq4 r8
          simp only at hL3 hq4
          split at hL3
          · rename_i hlen2
            have ra8 : RepL C.K F8 accV acc := (((ra.mono x23).mono x36).mono x67).mono x78
            refine ⟨accV, t9.at_, by rw [ra8.length, sizeLine_eq]; exact hlen2, ?_⟩
            obtain ⟨k10, t10⟩ := k9.wtemp t9 (o' := .lst (accV ++ [v]))
            exact ⟨F8, e7, acc ++ [y], accV ++ [v], hw ▸ k10.wipe vs hbv, (((x12.trans x23).trans x36).trans x67).trans x78, ⟨t10.at_, t10.free, t10.new, t10.nfr, fun z => t10.no (hw ▸ z : IsOwn (wipeE e7 vs) (L2.wipe σ5 vs) Da).unwipe⟩, ra8.append (.one r8), hL3⟩
          · rename_i hlen2
            rw [if_neg hlen2] at hq4
            exact hq4.elim
        | non => rw [hs] at hq4; exact hq4.elim
        | own y => rw [hs] at hq4; exact hq4.elim
        | ro y => rw [hs] at hq4; exact hq4.elim
  · have hi3 : i = ds.length := by omega
    subst hi3
    rw [List.drop_length] at hL
    have hL' : RS.ok (.own (.lst acc)) (wipeE e0 vs) = R := hL
    rw [← hL'] at hq
    have k4 := k3.unwipe hbv
    exact .inl ⟨y2 (Nat.le_refl _), hq F2 H2 x12 k4 _ (k4.otemp ⟨t3.at_, t3.free, t3.new, t3.nfr, fun z => t3.no z.rewipe⟩ (.lst t3.at_ ra))⟩
end
end M

set_option Elab.async false
set_option linter.all false
set_option maxRecDepth 100000
set_option maxHeartbeats 4000000
namespace M
open PySem PySem.Spec PyProof.Rows L2

/-! ### comprehensions, as expressions and as what a name gets -/
section
variable {X : Cx} {C : FC} {W : WX} {tg iter elt e a : Expr} {ifs : List Expr} {pos : Pos} {src : En → RS (List D)} {tgt : D → En → Option En} {mc : En → RS Bool} {me m : En → RS Sl} {js bs : List Nat} {g : TG} {tt : TT} {own : List (Str × Nat)} {scope : Scope} {A B : Opd}
theorem g_lc (hK : C.K = X.K) (hca : X.calm = true) (hN : X.N.Nodup) (hb : ∀ q ∈ C.bor, q.1 ∈ bs) (hv : (own.map (·.2)).all (fun i => !bs.contains i) = true) (hj : js.all (fun j => (own.map (·.2)).contains j) = true) (ht : TgOk C g tgt js) (hc : TtOk C tt mc)
    (hi : PI X tg iter (iM C W src)) (ok : BlkOk X.N X.env.scope scope own)
    (hg : ∀ (s : Shared) (H : Hp) (C : Addr) (cl : List (Str × Addr)) (fp : List Addr), PG (X.blk s H scope (compEnvC scope cl C X.env) fp) tg g) (htt : ∀ (s : Shared) (H : Hp) (C : Addr) (cl : List (Str × Addr)) (fp : List Addr), PTs (X.blk s H scope (compEnvC scope cl C X.env) fp) ifs tt)
    (he : ∀ (s : Shared) (H : Hp) (Cc : Addr) (cl : List (Str × Addr)) (fp : List Addr), PE (X.blk s H scope (compEnvC scope cl Cc X.env) fp) elt (tMx C.K C.ca me)) (hs : ∀ x, foldedSetIterable iter X.env x = pure x) :
    PE X (.ListComp elt [⟨tg, iter, ifs, 0⟩] scope pos) (tM C W (mLc src tgt mc me (own.map (·.2)))) :=
  pe_imp (pe_lc hca hN hi ok hg htt he hs) fun σ H Q q => lc_run hb hv hj ht hc q
theorem gs_asgLc {i : Nat} {y : Str} {py spos : Pos} (hK : C.K = X.K) (hca : X.calm = true) (hN : X.N.Nodup) (hb : ∀ q ∈ C.bor, q.1 ∈ bs) (hi' : bs.contains i = false) (hv : (own.map (·.2)).all (fun i => !bs.contains i) = true) (hj : js.all (fun j => (own.map (·.2)).contains j) = true) (ht : TgOk C g tgt js) (hc : TtOk C tt mc)
    (hy : X.N[i]? = some y) (hyl : X.env.scope.names.lookup y = some .local) (hsw : swapsWith (.ListComp elt [⟨tg, iter, ifs, 0⟩] scope pos) (some (.Name y py)) spos.line X.env = pure true)
    (hi : PI X tg iter (iM C W src)) (ok : BlkOk X.N X.env.scope scope own)
    (hg : ∀ (s : Shared) (H : Hp) (C : Addr) (cl : List (Str × Addr)) (fp : List Addr), PG (X.blk s H scope (compEnvC scope cl C X.env) fp) tg g) (htt : ∀ (s : Shared) (H : Hp) (C : Addr) (cl : List (Str × Addr)) (fp : List Addr), PTs (X.blk s H scope (compEnvC scope cl C X.env) fp) ifs tt)
    (he : ∀ (s : Shared) (H : Hp) (Cc : Addr) (cl : List (Str × Addr)) (fp : List Addr), PE (X.blk s H scope (compEnvC scope cl Cc X.env) fp) elt (tMx C.K C.ca me)) (hs : ∀ x, foldedSetIterable iter X.env x = pure x) :
    PS X (.Assign [.Name y py] (.ListComp elt [⟨tg, iter, ifs, 0⟩] scope pos) spos) (tMS C W (mAsg i (mLc src tgt mc me (own.map (·.2))))) :=
  ps_imp (ps_setLc hca hN hy hyl hsw hi ok hg htt he hs) fun D σ H ⟨F, env, k, h⟩ => by
    have h1 : tM C W (mLc src tgt mc me (own.map (·.2))) σ H fun x H1 => D.nx (σ.set i (some x)) H1 := tM_then k ((outOf_then (σ := σ) h).imp fun s e F' H' e1 k1 g v r => g F' _ H' (Ex.refl F') (k1.asg i (ne_bs hb hi') r))
    exact lc_run hb hv hj ht hc h1

/-! ### x[i] = e, d[k] = e of one's own -/
def mSetI (i : Nat) (E K : Opd) : En → Out := fun e => match e.getD i .non with
  | .own _ => outOfL (ops [E, K] e) fun ss e' => match ss with
    | [.fro d, sk] => match e'.getD i .non with
      | .own (.lst ds) => match sk.d with
        | .int z => match ixN ds.length z with
          | some j => .nx (e'.set i (.own (.lst (ds.set j d))))
          | none => .bad
        | _ => .bad
      | .own (.dic kds) => match keyD sk.d with
        | some kk => if kds.length < 16777216 then .nx (e'.set i (.own (.dic (dput kds kk d)))) else .bad
        | none => .bad
      | _ => .bad
    | _ => .bad
  | _ => .bad
theorem ps_or {st : Stmt} {t u : TS} (h1 : PS X st t) (h2 : PS X st u) : PS X st (fun D σ H => t D σ H ∨ u D σ H) := ⟨fun pins s σ H D I q => q.elim (h1.run pins s σ H D I) (h2.run pins s σ H D I)⟩
theorem mSetI_core {i : Nat} {E K : Opd} {D : Ends} {σ : L2.St} {H : Hp} {F : Hp} {env : En} (k : Ok C F env σ H) (h : ThenS C W F D (mSetI i E K env)) :
    ∃ ad, σ[i]? = some (some (.ref ad)) ∧
      Then C W F σ (ops [E, K] env) fun ss e' F' H' => ∀ vs, ARepO C F' H' e' σ [E, K] vs ss → ∃ v y, vs = [v, y] ∧
        ((∃ ds d z j, e'.getD i .non = .own (.lst ds) ∧ y = .int z ∧ ∃ ws, H' ad = some (.lst ws) ∧ ixN ws.length z = some j ∧ D.nx σ (upd H' ad (.lst (ws.set j v))) ∧ d = ds) ∨
         (∃ kds, e'.getD i .non = .own (.dic kds) ∧ ∃ H2, DPut H' ad y v H2 ∧ D.nx σ H2)) := by
  unfold mSetI at h
  split at h
  · rename_i d0 z0
    obtain ⟨ad, e4, ow⟩ := k.own_at (getD_of z0 (by intro y; cases y))
    refine ⟨ad, e4, (outOfL_then (σ := σ) h).imp fun ss e' F' H' e1 k1 g vs ra => ?_⟩
    split at g
    · rename_i d sk
      have pr := ra.prep k1
      have hv : ∃ v y, vs = [v, y] ∧ Rep C.K F' v d ∧ PRep C F' H' y sk.d := by
        cases ra with
        | val r ra =>
          cases pr with
          | cons _ pr => cases pr with
            | cons p2 pr => cases pr; exact ⟨_, _, rfl, r, p2⟩
        | pk r _ _ ra =>
          cases pr with
          | cons _ pr => cases pr with
            | cons p2 pr => cases pr; exact ⟨_, _, rfl, r, p2⟩
      obtain ⟨v, y, rfl, rv, py⟩ := hv
      refine ⟨v, y, rfl, ?_⟩
      split at g
      · rename_i ds hg
        have q3 := getD_of hg (by intro y; cases y)
        obtain ⟨ad', e5, ow2⟩ := k1.own_at q3
        rw [e4] at e5
        cases e5
        split at g
        · rename_i z hz
          rw [hz] at py
          split at g
          · rename_i j hj
            cases ow2.top with
            | lst hh rl =>
              exact .inl ⟨ds, ds, z, j, hg, py.int, _, hh, by rw [rl.length]; exact hj, g F' σ _ (Ex.refl F') (k1.write q3 e4 (.lst upd_same (rl.set j rv))), rfl⟩
          · exact g.elim
        · exact g.elim
      · rename_i kds hg
        have q3 := getD_of hg (by intro y; cases y)
        obtain ⟨ad', e5, ow2⟩ := k1.own_at q3
        rw [e4] at e5
        cases e5
        split at g
        · rename_i kk hk
          split at g
          · rename_i hl
            cases ow2.top with
            | dic hh rl =>
              refine .inr ⟨kds, hg, _, ?_, g F' σ _ (Ex.refl F') (k1.write q3 e4 (.dic upd_same (rl.put rv)))⟩
              rw [keyD_v py hk]
              exact DPut.k hh (by rw [rl.length, sizeLine_eq]; exact hl)
          · exact g.elim
        · exact g.elim
      · exact g.elim
    · exact g.elim
  · exact h.elim
theorem gs_setI {i : Nat} {o v k : Expr} {E K : Opd} {p2 : Pos} (hu : X.A.units + 200 < cLine) (ho : PE X o (tVar i)) (hv : PE X v (oT C W E)) (hk : PE X k (oT C W K)) (hs : swapsWithSole [.Subscript o k p2] v pos.line X.env = pure false) (hw : swappedStores [.Subscript o k p2] v X.env = pure none)
    (hsub : ∀ u, assign (.Subscript o k p2) X.env u = (do
      let ov ← holding [u] (eval o X.env)
      let iv ← holding [u, ov] (eval k X.env)
      standAt p2
      holding [u, ov, iv] (setItem ov iv u)
      release [u, ov, iv] [])) :
    PS X (.Assign [.Subscript o k p2] v pos) (tMS C W (mSetI i E K)) :=
  ps_imp (ps_or (ps_asg hv (pg_sub ho hk set_list hsub) hs hw (by rfl)) (ps_dput (by omega) ho hk hv hs)) fun D σ H ⟨F, env, kk, h⟩ => by
    obtain ⟨ad, e4, h2⟩ := mSetI_core kk h
    have dec : (∀ ss e', ops [E, K] env = .ok ss e' → ∃ kds, e'.getD i .non = .own (.dic kds)) ∨ (∀ ss e', ops [E, K] env = .ok ss e' → ∀ kds, e'.getD i .non ≠ .own (.dic kds)) := by
      cases z : ops [E, K] env with
      | ok ss e' =>
        by_cases y : ∃ kds, e'.getD i .non = .own (.dic kds)
        · exact .inl fun _ _ w => by cases w; exact y
        · exact .inr fun _ _ w kds q => by cases w; exact y ⟨kds, q⟩
      | ex x e' => exact .inl fun _ _ w => by cases w
      | bad => exact .inl fun _ _ w => by cases w
    rcases dec with dec | dec
    · refine .inr ?_
      have key : oTA C W [E, K] σ H fun vs H1 => match vs with | [v, y] => ∃ H2, DPut H1 ad y v H2 ∧ D.nx σ H2 | _ => False := by
        refine ops_run [E, K] kk (h2.reach fun ss e' F' H' z e1 k1 g vs ra => ?_)
        obtain ⟨v, y, rfl, g⟩ := g vs ra
        obtain ⟨kds, hd⟩ := dec ss e' z
        rcases g with ⟨ds, _, _, _, q, _⟩ | ⟨_, _, g⟩
        · rw [hd] at q; cases q
        · exact g
      exact oT_mono (fun v H1 q1 => ⟨_, e4, oT_mono (fun y H2 ⟨H3, q2, q3⟩ => ⟨ad, H3, rfl, q2, q3⟩) (show oT C W K σ H1 fun y H2 => ∃ H3, DPut H2 ad y v H3 ∧ D.nx σ H3 from q1)⟩) key
    · refine .inl ?_
      have key : oTA C W [E, K] σ H fun vs H1 => match vs with | [v, y] => rSetL (.ref ad) y v H1 fun H3 => D.nx σ H3 | _ => False := by
        refine ops_run [E, K] kk (h2.reach fun ss e' F' H' z e1 k1 g vs ra => ?_)
        obtain ⟨v, y, rfl, g⟩ := g vs ra
        rcases g with ⟨ds, _, zz, j, _, rfl, ws, q1, q2, q3, _⟩ | ⟨kds, q, _⟩
        · exact ⟨ad, ws, zz, j, rfl, rfl, q1, q2, q3⟩
        · exact absurd q (dec ss e' z kds)
      exact oT_mono (fun v H1 q1 => ⟨_, e4, (show oT C W K σ H1 fun y H2 => rSetL (.ref ad) y v H2 fun H3 => D.nx σ H3 from q1)⟩) key
end
end M

set_option Elab.async false
set_option linter.all false
set_option maxRecDepth 100000
set_option maxHeartbeats 4000000
namespace M
open PySem PySem.Spec PyProof.Rows L2

/-! ### what a def promises: its run -/
def ownIn (bs : List Nat) : Nat → List Sl → Bool
  | _, [] => true
  | j, .own _ :: r => bs.contains j && ownIn bs (j + 1) r
  | j, _ :: r => ownIn bs (j + 1) r
/-- n slots, bs the parameters whose lists may be changed -/
def fnRun (n : Nat) (bs : List Nat) (ms : En → Out) (ss : List Sl) : RS Sl := if ownIn bs 0 ss then (match ms (ss ++ List.replicate (n - ss.length) .non) with
  | .rt s e => .ok s e
  | .nx e => .ok (.fro .non) e
  | .ex x e => .ex x e
  | _ => .bad) else .bad
def spM (K : PySem.W.Frag) (ca : Str → Addr) (np : Nat) (f : List Sl → RS Sl) : Sp := fun vs H Q E => ∃ (C : FC) (ss : List Sl), C.K = K ∧ C.ca = ca ∧ C.H0 = H ∧ ss.length = np ∧ Ok C C.F0 ss (vs.map some) H ∧ (∀ q ∈ C.bor, ∃ d, ss[q.1]? = some (.own d)) ∧
  match f ss with
  | .ok s outs => ∀ v F' env' σ' H', Ok C F' env' σ' H' → (∀ q ∈ C.bor, env'[q.1]? = outs[q.1]?) → SlRep C F' H' env' σ' v s → Q v H'
  | .ex x _ => ∀ cls d F' env' σ' H', Ok C F' env' σ' H' → XRep C F' x cls d → E cls d H'
  | .bad => False
theorem ownIn_get {bs : List Nat} : ∀ {ss : List Sl} {j : Nat}, ownIn bs j ss = true → ∀ {i : Nat} {d : D}, ss[i]? = some (.own d) → bs.contains (j + i) = true
  | [], _, _, i, d, h => by simp at h
  | s :: r, j, h, 0, d, e => by
    have : s = .own d := Option.some.inj e
    subst this
    have h' : (bs.contains j && ownIn bs (j + 1) r) = true := h
    rw [Bool.and_eq_true] at h'
    exact h'.1
  | s :: r, j, h, i + 1, d, e => by
    have h' : ownIn bs (j + 1) r = true := by
      cases s with
      | own d0 =>
        have h' : (bs.contains j && ownIn bs (j + 1) r) = true := h
        rw [Bool.and_eq_true] at h'
        exact h'.2
      | non => exact h
      | fro d => exact h
      | ro d => exact h
    have := ownIn_get h' (i := i) (d := d) e
    rw [show j + (i + 1) = j + 1 + i by omega]
    exact this
theorem get_pad {α : Type} {l : List α} {x : α} {m i : Nat} {y : α} (h : (l ++ List.replicate m x)[i]? = some y) : l[i]? = some y ∨ (l.length ≤ i ∧ y = x) := by
  by_cases hi : i < l.length
  · rw [List.getElem?_append_left hi] at h
    exact .inl h
  · rw [List.getElem?_append_right (by omega), List.getElem?_replicate] at h
    split at h
    · cases h
      exact .inr ⟨by omega, rfl⟩
    · cases h
theorem Ok.pad {C : FC} {F H : Hp} {env : En} {σ : L2.St} (k : Ok C F env σ H) (m : Nat) : Ok C F (env ++ List.replicate m .non) (σ ++ List.replicate m none) H := by
  refine ⟨k.ex, k.fr, k.fro, k.frs, k.mu, k.f0, k.st, by rw [List.length_append, List.length_append, List.length_replicate, List.length_replicate, k.len], fun i s hs => ?_, fun i j d d' a h1 h2 h3 h4 => ?_, fun q hq => ?_⟩
  · rcases get_pad hs with h | ⟨hl, rfl⟩
    · obtain ⟨ov, e, w⟩ := k.sl i s h
      exact ⟨ov, by rw [List.getElem?_append_left (List.getElem?_eq_some_iff.mp e).1]; exact e, w⟩
    · rw [k.len] at hl
      have hlt := (List.getElem?_eq_some_iff.mp hs).1
      rw [List.length_append, List.length_replicate, k.len] at hlt
      exact ⟨none, by rw [List.getElem?_append_right hl, List.getElem?_replicate, if_pos (by omega)], trivial⟩
  · rcases get_pad h1 with g1 | ⟨_, z⟩
    · rcases get_pad h2 with g2 | ⟨_, z⟩
      · have l1 := (List.getElem?_eq_some_iff.mp g1).1
        have l2 := (List.getElem?_eq_some_iff.mp g2).1
        rw [k.len] at l1 l2
        rw [List.getElem?_append_left l1] at h3
        rw [List.getElem?_append_left l2] at h4
        exact k.nd i j d d' a g1 g2 h3 h4
      · cases z
    · cases z
  · have e := k.bor q hq
    rw [List.getElem?_append_left (List.getElem?_eq_some_iff.mp e).1]
    exact e
/-- a def's promise, from its body -/
theorem fn_ok {P : Program} {w : World} {K : PySem.W.Frag} {mg : Str → Option Value} {base : Heap} {x qual : Str} {st : Stmt} {f : Addr} {fd : FuncData} {N ps : List Str} {k : Nat} {ca : Str → Addr} {bs : List Nat} {ms : En → Out} {np : Nat}
    (F : L2.Fun K x qual st f fd) (S : FnScope N ps (defScope st)) (hnp : ps.length = np)
    (hbody : ∀ (cdv : Value) (A : Around) (outer : List Env) (s : Shared) (H : Hp) (E : XK) (C : FC), Room k (A.deeper (envOfC qual (defScope st) s.heap.objs.size f cdv)) → C.K = K → C.ca = ca → (∀ q ∈ C.bor, q.1 ∈ bs) →
      PSs (cxOf (L2.CX P w) P w K mg base N qual (defScope st) f cdv A outer s H E) (defBody st) (tMS C (fun cls d _ H => E cls d H) ms)) :
    FnOk P w K mg base (L2.CX P w) (k + 1) f fd ps (spM K ca np (fnRun N.length bs ms)) := by
  refine F.okX S (fun vs H Q E h => ?_) (fun cdv A outer s H vs Q E hr h => ?_)
  · obtain ⟨C, ss, _, _, _, hl, k, _⟩ := h
    have := k.len
    rw [List.length_map] at this
    omega
  · obtain ⟨C, ss, hK, hca, hH, hl, kk, hbo, h⟩ := h
    have hlen := kk.len
    rw [List.length_map] at hlen
    unfold fnRun at h
    by_cases hown : ownIn bs 0 ss = true
    · rw [if_pos hown] at h
      refine ⟨_, hbody cdv A outer s H E C hr hK hca (fun q hq => ?_), C.F0, ss ++ List.replicate (N.length - ss.length) .non, (by unfold L2.start; rw [← hlen]; exact kk.pad (N.length - ss.length)), ?_⟩
      · obtain ⟨d, e⟩ := hbo q hq
        have := ownIn_get hown e
        rw [Nat.zero_add] at this
        exact List.contains_iff_mem.mp this
      · cases hm : ms (ss ++ List.replicate (N.length - ss.length) .non) with
        | nx e =>
          rw [hm] at h
          exact fun F' σ' H' _ k' => h .non F' e σ' H' k' (fun _ _ => rfl) .non
        | rt s e =>
          rw [hm] at h
          exact fun v F' σ' H' _ k' r => h v F' e σ' H' k' (fun _ _ => rfl) r
        | ex x e =>
          rw [hm] at h
          exact fun cls d F' σ' H' k' xr => h cls d F' e σ' H' k' xr
        | bk e => rw [hm] at h; exact h.elim
        | ct e => rw [hm] at h; exact h.elim
        | bad => rw [hm] at h; exact h.elim
    · rw [if_neg hown] at h
      exact h.elim

/-! ### a call -/
def borL : List Opd → Nat → List (Nat × Nat)
  | [], _ => []
  | .bor i :: r, j => (i, j) :: borL r (j + 1)
  | .val _ :: r, j => borL r (j + 1)
  | .pk _ :: r, j => borL r (j + 1)
def pkL : List Opd → List Nat
  | [] => []
  | .bor _ :: r => pkL r
  | .val _ :: r => pkL r
  | .pk i :: r => i :: pkL r
/-- what is lent is lent once, and not looked at besides -/
def borOk (os : List Opd) : Bool := decide ((borL os 0).map (·.1)).Nodup && (pkL os).all fun i => !((borL os 0).map (·.1)).contains i
def clean : Option Sl → Sl
  | some (.own d) => .own d
  | some (.fro d) => .fro d
  | _ => .non
def afterB (outs : En) : List (Nat × Nat) → En → En
  | [], e => e
  | p :: r, e => afterB outs r (e.set p.1 (clean outs[p.2]?))
def goneB : List (Nat × Nat) → En → En
  | [], e => e
  | p :: r, e => goneB r (e.set p.1 .non)
def mCall (f : List Sl → RS Sl) (os : List Opd) : En → RS Sl := fun e => (ops os e).bind fun ss e' => match f ss with
  | .ok (.fro d) outs => .ok (.fro d) (afterB outs (borL os 0) e')
  | .ok (.own d) outs => .ok (.own d) (afterB outs (borL os 0) e')
  | .ex x _ => .ex x (goneB (borL os 0) e')
  | _ => .bad
theorem afterB_get {outs : En} : ∀ {bl : List (Nat × Nat)} {e : En} {i : Nat} {s : Sl}, (bl.map (·.1)).Nodup → (afterB outs bl e)[i]? = some s → (∃ j, (i, j) ∈ bl ∧ s = clean outs[j]?) ∨ (i ∉ bl.map (·.1) ∧ e[i]? = some s)
  | [], e, i, s, _, h => .inr ⟨List.not_mem_nil, h⟩
  | p :: r, e, i, s, hn, h => by
    rw [List.map_cons, List.nodup_cons] at hn
    rcases afterB_get (bl := r) (e := e.set p.1 (clean outs[p.2]?)) hn.2 h with ⟨j, h1, h2⟩ | ⟨h1, h2⟩
    · exact .inl ⟨j, List.mem_cons_of_mem _ h1, h2⟩
    · by_cases z : p.1 = i
      · subst z
        exact .inl ⟨p.2, List.mem_cons_self, get_set_self h2⟩
      · rw [List.getElem?_set_ne z] at h2
        exact .inr ⟨by rw [List.map_cons, List.mem_cons, not_or]; exact ⟨fun q => z q.symm, h1⟩, h2⟩
theorem afterB_len {outs : En} : ∀ {bl : List (Nat × Nat)} {e : En}, (afterB outs bl e).length = e.length
  | [], _ => rfl
  | p :: r, e => by
    show (afterB outs r _).length = _
    rw [afterB_len, List.length_set]
theorem goneB_get : ∀ {bl : List (Nat × Nat)} {e : En} {i : Nat} {s : Sl}, (goneB bl e)[i]? = some s → s = .non ∨ (i ∉ bl.map (·.1) ∧ e[i]? = some s)
  | [], e, i, s, h => .inr ⟨List.not_mem_nil, h⟩
  | p :: r, e, i, s, h => by
    rcases goneB_get (bl := r) (e := e.set p.1 .non) h with h1 | ⟨h1, h2⟩
    · exact .inl h1
    · by_cases z : p.1 = i
      · subst z
        exact .inl (get_set_self h2)
      · rw [List.getElem?_set_ne z] at h2
        exact .inr ⟨by rw [List.map_cons, List.mem_cons, not_or]; exact ⟨fun q => z q.symm, h1⟩, h2⟩
theorem goneB_len : ∀ {bl : List (Nat × Nat)} {e : En}, (goneB bl e).length = e.length
  | [], _ => rfl
  | p :: r, e => by
    show (goneB r _).length = _
    rw [goneB_len, List.length_set]
theorem nodup_fst {α β : Type} : ∀ {l : List (α × β)} {x : α} {y z : β}, (l.map (·.1)).Nodup → (x, y) ∈ l → (x, z) ∈ l → y = z
  | p :: r, x, y, z, hn, h1, h2 => by
    rw [List.map_cons, List.nodup_cons] at hn
    rcases List.mem_cons.mp h1 with e1 | g1
    · rcases List.mem_cons.mp h2 with e2 | g2
      · rw [← e1] at e2
        cases e2
        rfl
      · exact absurd (List.mem_map.mpr ⟨(x, z), g2, by rw [← e1]⟩) hn.1
    · rcases List.mem_cons.mp h2 with e2 | g2
      · exact absurd (List.mem_map.mpr ⟨(x, y), g1, by rw [← e2]⟩) hn.1
      · exact nodup_fst hn.2 g1 g2
section
variable {C : FC} {F H : Hp} {env : En} {σ : L2.St}
/-- what the arguments are -/
theorem args_own : ∀ {os : List Opd} {vs : List V} {ss : List Sl} {j0 : Nat}, ARepO C F H env σ os vs ss → ∀ {j : Nat} {d : D}, ss[j]? = some (.own d) → ∃ i v, (i, j0 + j) ∈ borL os j0 ∧ vs[j]? = some v ∧ σ[i]? = some (some v) ∧ env[i]? = some (.own d)
  | _, _, _, _, .nil, j, d, h => by simp at h
  | _, _, _, j0, .val (s := s) a r, j, d, h => by
    cases j with
    | zero =>
      have := Option.some.inj h
      subst this
      exact a.elim
    | succ j =>
      obtain ⟨i, v, h1, h2, h3, h4⟩ := args_own (j0 := j0 + 1) r (j := j) (d := d) h
      exact ⟨i, v, by rw [show j0 + (j + 1) = j0 + 1 + j by omega]; exact h1, h2, h3, h4⟩
  | _, _, _, j0, .pk (s := s) a _ _ r, j, d, h => by
    cases j with
    | zero =>
      have := Option.some.inj h
      subst this
      exact a.elim
    | succ j =>
      obtain ⟨i, v, h1, h2, h3, h4⟩ := args_own (j0 := j0 + 1) r (j := j) (d := d) h
      exact ⟨i, v, by rw [show j0 + (j + 1) = j0 + 1 + j by omega]; exact h1, h2, h3, h4⟩
  | _, _, _, j0, .bor (i := i) (v := v) h1 h2 r, j, d, h => by
    cases j with
    | zero =>
      have := Option.some.inj h
      cases this
      exact ⟨i, v, List.mem_cons_self, rfl, h1, h2⟩
    | succ j =>
      obtain ⟨i', v', g1, g2, g3, g4⟩ := args_own (j0 := j0 + 1) r (j := j) (d := d) h
      exact ⟨i', v', by rw [show j0 + (j + 1) = j0 + 1 + j by omega]; exact List.mem_cons_of_mem _ g1, g2, g3, g4⟩
theorem args_bor : ∀ {os : List Opd} {vs : List V} {ss : List Sl} {j0 : Nat}, ARepO C F H env σ os vs ss → ∀ {i jj : Nat}, (i, jj) ∈ borL os j0 → ∃ j v d, jj = j0 + j ∧ vs[j]? = some v ∧ ss[j]? = some (.own d) ∧ σ[i]? = some (some v) ∧ env[i]? = some (.own d)
  | _, _, _, _, .nil, i, jj, h => by cases h
  | _, _, _, j0, .val a r, i, jj, h => by
    obtain ⟨j, v, d, h1, h2, h3, h4, h5⟩ := args_bor (j0 := j0 + 1) r h
    exact ⟨j + 1, v, d, by omega, h2, h3, h4, h5⟩
  | _, _, _, j0, .pk a _ _ r, i, jj, h => by
    obtain ⟨j, v, d, h1, h2, h3, h4, h5⟩ := args_bor (j0 := j0 + 1) r h
    exact ⟨j + 1, v, d, by omega, h2, h3, h4, h5⟩
  | _, _, _, j0, .bor (d := d) g1 g2 r, i, jj, h => by
    rcases List.mem_cons.mp h with z | h
    · cases z
      exact ⟨0, _, d, by omega, rfl, rfl, g1, g2⟩
    · obtain ⟨j, v, d, h1, h2, h3, h4, h5⟩ := args_bor (j0 := j0 + 1) r h
      exact ⟨j + 1, v, d, by omega, h2, h3, h4, h5⟩
theorem args_sl : ∀ {os : List Opd} {vs : List V} {ss : List Sl}, ARepO C F H env σ os vs ss → ∀ {j : Nat} {s : Sl}, ss[j]? = some s → ∃ v, vs[j]? = some v ∧ (∀ d, s = .fro d → Rep C.K F v d) ∧ s ≠ .non ∧ (∀ d, s = .ro d → (∃ a, v = .ref a ∧ TopD C.K F C.Fro a d) ∨ ∃ i, i ∈ pkL os ∧ σ[i]? = some (some v) ∧ ∃ t, env[i]? = some t ∧ Sl.ro d = t.lk)
  | _, _, _, .nil, j, s, h => by simp at h
  | _, _, _, .val a r, j, s, h => by
    cases j with
    | zero =>
      have := Option.some.inj h
      subst this
      exact ⟨_, rfl, fun d e => by subst e; exact a, fun e => by subst e; exact a, fun d e => by subst e; exact .inl a⟩
    | succ j => exact args_sl r (j := j) h
  | _, _, _, .pk a h1 h2 r, j, s, h => by
    cases j with
    | zero =>
      have := Option.some.inj h
      subst this
      obtain ⟨t, h2, h3⟩ := h2
      exact ⟨_, rfl, fun d e => by subst e; exact a, fun e => by subst e; exact a, fun d e => by subst e; exact .inr ⟨_, List.mem_cons_self, h1, t, h2, h3⟩⟩
    | succ j =>
      obtain ⟨v, g1, g2, g3, g4⟩ := args_sl r (j := j) h
      exact ⟨v, g1, g2, g3, fun d e => (g4 d e).imp id fun ⟨i, q1, q2⟩ => ⟨i, List.mem_cons_of_mem _ q1, q2⟩⟩
  | _, _, _, .bor h1 h2 r, j, s, h => by
    cases j with
    | zero =>
      have := Option.some.inj h
      subst this
      exact ⟨_, rfl, (fun d e => by cases e), (fun e => by cases e), (fun d e => by cases e)⟩
    | succ j =>
      obtain ⟨v, g1, g2, g3, g4⟩ := args_sl r (j := j) h
      exact ⟨v, g1, g2, g3, fun d e => (g4 d e).imp id fun ⟨i, q1, q2⟩ => ⟨i, q1, q2⟩⟩
theorem ARepO.len : ∀ {os : List Opd} {vs : List V} {ss : List Sl}, ARepO C F H env σ os vs ss → vs.length = os.length ∧ ss.length = os.length
  | _, _, _, .nil => ⟨rfl, rfl⟩
  | _, _, _, .val _ r => ⟨congrArg (· + 1) r.len.1, congrArg (· + 1) r.len.2⟩
  | _, _, _, .pk _ _ _ r => ⟨congrArg (· + 1) r.len.1, congrArg (· + 1) r.len.2⟩
  | _, _, _, .bor _ _ r => ⟨congrArg (· + 1) r.len.1, congrArg (· + 1) r.len.2⟩

/-- the callee's context -/
def bors (os : List Opd) (vs : List V) : List (Nat × Addr) := (borL os 0).filterMap fun (p : Nat × Nat) => match (vs[p.2]? : Option V) with
  | some (V.ref a) => some (p.2, a)
  | _ => none
def callC (C : FC) (F H : Hp) (os : List Opd) (vs : List V) : FC where
  K := C.K
  H0 := H
  F0 := F
  bor := bors os vs
  ca := C.ca
  Fr := fun a => if a ∈ (bors os vs).map (·.2) then none else H a
  Fro := fun a => if a ∈ (bors os vs).map (·.2) then none else H a
theorem bors_mem {os : List Opd} {vs : List V} {j : Nat} {a : Addr} : (j, a) ∈ bors os vs ↔ ∃ i, (i, j) ∈ borL os 0 ∧ vs[j]? = some (.ref a) := by
  unfold bors
  rw [List.mem_filterMap]
  constructor
  · rintro ⟨⟨i, j'⟩, h1, h2⟩
    have h2' : (match (vs[j']? : Option V) with | some (V.ref a) => some (j', a) | _ => none) = some (j, a) := h2
    split at h2'
    · rename_i a' hv
      cases h2'
      exact ⟨i, h1, hv⟩
    · cases h2'
  · rintro ⟨i, h1, h2⟩
    exact ⟨(i, j), h1, by simp only [h2]⟩
theorem mus_mem (k : Ok C F env σ H) {os : List Opd} {vs : List V} {ss : List Sl} (ra : ARepO C F H env σ os vs ss) {a : Addr} (h : a ∈ (bors os vs).map (·.2)) : ∃ i j d, (i, j) ∈ borL os 0 ∧ vs[j]? = some (.ref a) ∧ σ[i]? = some (some (.ref a)) ∧ env[i]? = some (.own d) ∧ Owned C F H a d ∧ ss[j]? = some (.own d) := by
  obtain ⟨⟨j, a'⟩, h1, rfl⟩ := List.mem_map.mp h
  obtain ⟨i, h2, h3⟩ := bors_mem.mp h1
  obtain ⟨j', v, d, e1, e2, e3, e4, e5⟩ := args_bor ra h2
  rw [Nat.zero_add] at e1
  subst e1
  rw [e2] at h3
  cases h3
  obtain ⟨a2, g1, g2⟩ := k.own_at e5
  rw [e4] at g1
  cases g1
  exact ⟨i, _, d, h2, e2, e4, e5, g2, e3⟩
theorem call_ok (k : Ok C F env σ H) {os : List Opd} {vs : List V} {ss : List Sl} (hb : borOk os = true) (ra : ARepO C F H env σ os vs ss) : Ok (callC C F H os vs) F ss (vs.map some) H := by
  have hb' : (decide ((borL os 0).map (·.1)).Nodup && (pkL os).all fun i => !((borL os 0).map (·.1)).contains i) = true := hb
  rw [Bool.and_eq_true, decide_eq_true_eq] at hb'
  obtain ⟨hnd, hpk⟩ := hb'
  have hfr : Ex (callC C F H os vs).Fr H := fun a u h => by
    have h' : (if a ∈ (bors os vs).map (·.2) then none else H a) = some u := h
    split at h'
    · cases h'
    · exact h'
  refine ⟨k.ex, hfr, hfr, Ex.refl _, fun a ha => ?_, fun a _ _ => rfl, fun a h => h, ?_, fun j s hs => ?_, fun i j d d' a h1 h2 h3 h4 => ?_, fun q hq => ?_⟩
  · obtain ⟨i, j, d, _, _, _, _, ow, _⟩ := mus_mem k ra ha
    obtain ⟨u, hu⟩ := ow.top.some
    show H a ≠ none
    rw [hu]
    exact Option.some_ne_none _
  · rw [List.length_map, ra.len.1, ra.len.2]
  · obtain ⟨v, h1, h2, h3, h4⟩ := args_sl ra hs
    refine ⟨some v, by rw [List.getElem?_map, h1] <;> rfl, ?_⟩
    cases s with
    | non => exact absurd rfl h3
    | fro d => exact ⟨v, rfl, h2 d rfl⟩
    | own d =>
      obtain ⟨i, v', g1, g2, g3, g4⟩ := args_own (j0 := 0) ra hs
      rw [Nat.zero_add] at g1
      rw [h1] at g2
      cases g2
      obtain ⟨a, e1, ow⟩ := k.own_at g4
      rw [g3] at e1
      cases e1
      have hm : a ∈ (bors os vs).map (·.2) := List.mem_map.mpr ⟨(j, a), bors_mem.mpr ⟨i, g1, h1⟩, rfl⟩
      exact ⟨a, rfl, ow.free, .inr hm, if_pos hm, ow.top⟩
    | ro d =>
      have nm : ∀ a, v = .ref a → TopD C.K F H a d → a ∉ (bors os vs).map (·.2) → SlotOk (callC C F H os vs) F H (some v) (.ro d) := fun a e t n => by
        refine ⟨a, by rw [e], t.mono (Ex.refl F) ?_⟩
        show (if a ∈ (bors os vs).map (·.2) then none else H a) = H a
        rw [if_neg n]
      rcases h4 d rfl with ⟨a, e, t⟩ | ⟨i, hi, e1, t, e2, e3⟩
      · refine nm a e (t.at k.fro) fun z => ?_
        obtain ⟨_, _, _, _, _, _, _, ow, _⟩ := mus_mem k ra z
        obtain ⟨u, hu⟩ := t.some
        rw [k.nfro ow] at hu
        cases hu
      · cases t with
        | non => cases e3
        | fro d => cases e3
        | own d' =>
          cases e3
          obtain ⟨a, g1, ow⟩ := k.own_at e2
          rw [e1] at g1
          cases g1
          refine nm a rfl ow.top fun z => ?_
          obtain ⟨i2, j2, d2, q1, _, q3, q4, _, _⟩ := mus_mem k ra z
          have := k.nd i i2 _ _ a e2 q4 e1 q3
          subst this
          have h5 := List.all_eq_true.mp hpk i hi
          rw [List.contains_iff_mem.mpr (List.mem_map.mpr ⟨(i, j2), q1, rfl⟩)] at h5
          cases h5
        | ro d' =>
          cases e3
          obtain ⟨ov, g1, a, g2, t⟩ := k.sl i _ e2
          rw [e1, g2] at g1
          cases g1
          refine nm a rfl (t.at k.fro) fun z => ?_
          obtain ⟨_, _, _, _, _, _, _, ow, _⟩ := mus_mem k ra z
          obtain ⟨u, hu⟩ := t.some
          rw [k.nfro ow] at hu
          cases hu
  · obtain ⟨i1, v1, g1, g2, g3, g4⟩ := args_own (j0 := 0) ra h1
    obtain ⟨i2, v2, q1, q2, q3, q4⟩ := args_own (j0 := 0) ra h2
    rw [Nat.zero_add] at g1 q1
    rw [List.getElem?_map, g2] at h3
    rw [List.getElem?_map, q2] at h4
    cases h3
    cases h4
    have := k.nd i1 i2 d d' a g4 q4 g3 q3
    subst this
    exact nodup_fst hnd g1 q1
  · obtain ⟨j, a⟩ := q
    obtain ⟨i, h1, h2⟩ := bors_mem.mp (show (j, a) ∈ bors os vs from hq)
    show (vs.map some)[j]? = some (some (.ref a))
    rw [List.getElem?_map, h2] <;> rfl
end
end M

set_option Elab.async false
set_option linter.all false
set_option maxRecDepth 100000
set_option maxHeartbeats 4000000
namespace M
open PySem PySem.Spec PyProof.Rows L2

section
variable {C : FC} {F F' H H' : Hp} {env env' e2 : En} {σ σ' : L2.St} {os : List Opd} {vs : List V} {ss : List Sl}
theorem back_ex (k : Ok C F env σ H) (ra : ARepO C F H env σ os vs ss) (kc : Ok (callC C F H os vs) F' env' σ' H') : Ex F F' := fun a u h => by
  have hH := k.ex a u h
  rw [kc.f0 a (by show H a ≠ none; rw [hH]; exact Option.some_ne_none _) fun z => ?_]
  · exact h
  · obtain ⟨_, _, _, _, _, _, _, ow, _⟩ := mus_mem k ra z
    rw [ow.free] at h
    cases h
/-- where the caller's slots stand behind the call -/
def Behind (env env' : En) (os : List Opd) (e2 : En) : Prop := e2.length = env.length ∧ ∀ (i : Nat) (s : Sl), e2[i]? = some s → (i ∉ (borL os 0).map (·.1) ∧ env[i]? = some s) ∨ ∃ j, (i, j) ∈ borL os 0 ∧ (s = .non ∨ s = clean env'[j]?)
theorem clean_own {o : Option Sl} {d : D} (h : Sl.own d = clean o) : o = some (.own d) := by
  unfold clean at h
  split at h
  · cases h
    rfl
  · cases h
  · cases h
theorem Behind.own (k : Ok C F env σ H) (ra : ARepO C F H env σ os vs ss) (b : Behind env env' os e2) {i : Nat} {d : D} (h : e2[i]? = some (.own d)) : ∃ d0, env[i]? = some (.own d0) := by
  rcases b.2 i _ h with ⟨_, g⟩ | ⟨j, g1, _⟩
  · exact ⟨d, g⟩
  · obtain ⟨_, _, d0, _, _, _, _, g⟩ := args_bor ra g1
    exact ⟨d0, g⟩
theorem back_ok (k : Ok C F env σ H) (ra : ARepO C F H env σ os vs ss) (kc : Ok (callC C F H os vs) F' env' σ' H') (b : Behind env env' os e2) : Ok C F' e2 σ H' := by
  have ex := back_ex k ra kc
  have stay : ∀ a u, H a = some u → a ∉ (bors os vs).map (·.2) → H' a = some u := fun a u h n => kc.fr a u (by show (if a ∈ (bors os vs).map (·.2) then none else H a) = some u; rw [if_neg n]; exact h)
  have hfr : Ex C.Fr H' := fun a u h => stay a u (k.fr a u h) fun z => by
    obtain ⟨_, _, _, _, _, _, _, ow, _⟩ := mus_mem k ra z
    rw [ow.nfr] at h
    cases h
  refine ⟨kc.ex, hfr, fun a u h => hfr a u (k.frs a u h), k.frs, k.mu, fun a h hm => ?_, fun a h => kc.st a (k.st a h), b.1.trans k.len, fun i s hs => ?_, fun i j d d' a h1 h2 h3 h4 => ?_, k.bor⟩
  · rw [kc.f0 a (k.st a h) fun z => ?_]
    · exact k.f0 a h hm
    · obtain ⟨_, _, _, _, _, _, _, ow, _⟩ := mus_mem k ra z
      rcases ow.mine with y | y
      · exact h y
      · exact hm y
  · rcases b.2 i s hs with ⟨n, g⟩ | ⟨j, g1, g2⟩
    · obtain ⟨ov, e, w⟩ := k.sl i s g
      refine ⟨ov, e, w.mono ex fun a d ow es eo => ?_⟩
      subst es
      subst eo
      have na : a ∉ (bors os vs).map (·.2) := fun z => by
        obtain ⟨i2, j2, d2, q1, _, q3, q4, _, _⟩ := mus_mem k ra z
        have := k.nd i i2 _ _ a g q4 e q3
        subst this
        exact n (List.mem_map.mpr ⟨(i, j2), q1, rfl⟩)
      obtain ⟨u, hu⟩ := ow.top.some
      refine ⟨?_, by rw [stay a u hu na, hu]⟩
      rw [kc.f0 a (by show H a ≠ none; rw [hu]; exact Option.some_ne_none _) na]
      exact ow.free
    · obtain ⟨j', v, d, e1, e2', e3, e4, e5⟩ := args_bor ra g1
      rw [Nat.zero_add] at e1
      subst e1
      obtain ⟨a, ea, ow⟩ := k.own_at e5
      rw [e4] at ea
      cases ea
      have hbor : σ'[j]? = some (some (.ref a)) := kc.bor (j, a) (bors_mem.mpr ⟨i, g1, e2'⟩)
      refine ⟨_, e4, ?_⟩
      rcases g2 with rfl | g2
      · trivial
      · cases hj : env'[j]? with
        | none =>
          rw [hj] at g2
          subst g2
          trivial
        | some t =>
          rw [hj] at g2
          obtain ⟨ov, q1, q2⟩ := kc.sl j t hj
          rw [hbor] at q1
          cases q1
          cases t with
          | non => subst g2; trivial
          | ro d => subst g2; trivial
          | fro d' =>
            subst g2
            exact q2
          | own d' =>
            subst g2
            obtain ⟨a', q3, q4⟩ := q2
            cases q3
            exact ⟨a, rfl, q4.free, ow.mine, ow.nfr, q4.top⟩
  · obtain ⟨d1, g1⟩ := Behind.own k ra b h1
    obtain ⟨d2, g2⟩ := Behind.own k ra b h2
    exact k.nd i j d1 d2 a g1 g2 h3 h4
theorem back_res {v : V} {s : Sl} (k : Ok C F env σ H) (ra : ARepO C F H env σ os vs ss) (kc : Ok (callC C F H os vs) F' env' σ' H') (b : Behind env env' os e2) (r : SlRep (callC C F H os vs) F' H' env' σ' v s) (hs : ∀ d, s ≠ .ro d) : SlRep C F' H' e2 σ v s := by
  cases s with
  | non => exact r
  | fro d => exact r
  | ro d => exact absurd rfl (hs d)
  | own d =>
    obtain ⟨a, rfl, ow, n⟩ := r
    refine ⟨a, rfl, ⟨ow.free, ?_, ?_, ow.top⟩, fun ⟨i, d2, h1, h2⟩ => ?_⟩
    · rcases ow.mine with z | z
      · exact .inl (k.h0 z)
      · obtain ⟨_, _, _, _, _, _, _, ow2, _⟩ := mus_mem k ra z
        exact ow2.mine
    · rcases ow.mine with z | z
      · exact k.freshFr z
      · obtain ⟨_, _, _, _, _, _, _, ow2, _⟩ := mus_mem k ra z
        exact ow2.nfr
    · rcases b.2 i _ h1 with ⟨n2, g⟩ | ⟨j, g1, g2⟩
      · obtain ⟨a', e, ow2⟩ := k.own_at g
        rw [h2] at e
        cases e
        rcases ow.mine with z | z
        · obtain ⟨u, hu⟩ := ow2.top.some
          have z' : H a = none := z
          rw [z'] at hu
          cases hu
        · obtain ⟨i2, j2, d3, q1, _, q3, q4, _, _⟩ := mus_mem k ra z
          have := k.nd i i2 _ _ a g q4 h2 q3
          subst this
          exact n2 (List.mem_map.mpr ⟨(i, j2), q1, rfl⟩)
      · rcases g2 with g2 | g2
        · cases g2
        · have hj := clean_own g2
          obtain ⟨j', v', d0, e1, e2', e3, e4, e5⟩ := args_bor ra g1
          rw [Nat.zero_add] at e1
          subst e1
          rw [h2] at e4
          cases e4
          exact n ⟨j, d2, hj, kc.bor (j, a) (bors_mem.mpr ⟨i, g1, e2'⟩)⟩
end

section
variable {X : Cx} {C : FC} {W : WX} {e : Expr} {es : List Expr} {pos : Pos} {os : List Opd} {fn : List Sl → RS Sl}
theorem call_run {σ : L2.St} {H : Hp} {Q : VK} {np : Nat} (hn : os.length = np) (hb : borOk os = true) (h : tM C W (mCall fn os) σ H Q) : oTA C W os σ H fun vs H1 => spM C.K C.ca np fn vs H1 Q (WE W σ) := by
  have hnd : ((borL os 0).map (·.1)).Nodup := by
    have hb' : (decide ((borL os 0).map (·.1)).Nodup && (pkL os).all fun i => !((borL os 0).map (·.1)).contains i) = true := hb
    rw [Bool.and_eq_true, decide_eq_true_eq] at hb'
    exact hb'.1
  obtain ⟨F, env, k, h⟩ := tM_out h
  refine ops_run os k ((show Then C W F σ ((ops os env).bind _) _ from h).bind.imp fun ss e1 F1 H1 _ k1 g vs ra => ?_)
  refine ⟨callC C F1 H1 os vs, ss, rfl, rfl, rfl, ra.len.2.trans hn, call_ok k1 hb ra, fun q hq => ?_, ?_⟩
  · obtain ⟨j, a⟩ := q
    obtain ⟨i, h1, h2⟩ := bors_mem.mp hq
    obtain ⟨j', v, d, q1, q2, q3, _⟩ := args_bor ra h1
    rw [Nat.zero_add] at q1
    subst q1
    exact ⟨d, q3⟩
  · have beh : ∀ {outs env' : En} {H' : Hp} {F' : Hp} {σ' : L2.St}, Ok (callC C F1 H1 os vs) F' env' σ' H' → (∀ q ∈ (callC C F1 H1 os vs).bor, env'[q.1]? = outs[q.1]?) → Behind e1 env' os (afterB outs (borL os 0) e1) := fun {outs env' H' F' σ'} kc ho => by
      refine ⟨afterB_len, fun i s hs => ?_⟩
      rcases afterB_get hnd hs with ⟨j, h1, h2⟩ | h2
      · obtain ⟨j', v, d, q1, q2, q3, q4, q5⟩ := args_bor ra h1
        rw [Nat.zero_add] at q1
        subst q1
        obtain ⟨a, ea, _⟩ := k1.own_at q5
        rw [q4] at ea
        cases ea
        refine .inr ⟨j, h1, .inr ?_⟩
        rw [ho (j, a) (bors_mem.mpr ⟨i, h1, q2⟩)]
        exact h2
      · exact .inl h2
    cases hf : fn ss with
    | bad => rw [hf] at g; exact g.elim
    | ex x outs =>
      rw [hf] at g
      have g' : ∀ cls d F' H', Ok C F' (goneB (borL os 0) e1) σ H' → XRep C F' x cls d → W cls d σ H' := g
      intro cls d F' env' σ' H' kc xr
      have b : Behind e1 env' os (goneB (borL os 0) e1) := by
        refine ⟨goneB_len, fun i s hs => ?_⟩
        by_cases hi : i ∈ (borL os 0).map (·.1)
        · obtain ⟨⟨i', j⟩, h1, rfl⟩ := List.mem_map.mp hi
          rcases goneB_get hs with h2 | ⟨h2, _⟩
          · exact .inr ⟨j, h1, .inl h2⟩
          · exact absurd hi h2
        · rcases goneB_get hs with h2 | h2
          · refine .inl ⟨hi, ?_⟩
            have : ∀ {bl : List (Nat × Nat)} {e : En}, i ∉ bl.map (·.1) → (goneB bl e)[i]? = e[i]? := fun {bl} => by
              induction bl with
              | nil => exact fun _ => rfl
              | cons p r ih =>
                intro e hn
                rw [List.map_cons, List.mem_cons, not_or] at hn
                show (goneB r (e.set p.1 .non))[i]? = _
                rw [ih hn.2, List.getElem?_set_ne (fun z => hn.1 z.symm)]
            rw [← this hi]
            exact hs
          · exact .inl h2
      exact g' cls d F' H' (back_ok k1 ra kc b) xr
    | ok s outs =>
      rw [hf] at g
      intro v F' env' σ' H' kc ho r
      have b := beh kc ho
      cases s with
      | non => exact g.elim
      | ro d => exact g.elim
      | fro d => exact g F' H' (back_ex k1 ra kc) (back_ok k1 ra kc b) v (back_res k1 ra kc b r (fun _ z => by cases z))
      | own d => exact g F' H' (back_ex k1 ra kc) (back_ok k1 ra kc b) v (back_res k1 ra kc b r (fun _ z => by cases z))
theorem g_call {x : Str} {p : Pos} {k np : Nat} {f : Addr} {fd : FuncData} {ps : List Str} (hK : C.K = X.K) (F : FnOk X.prog X.w X.K X.mg X.base (L2.CX X.prog X.w) k f fd ps (spM X.K C.ca np fn)) (hr : Room k X.A) (hg : Gl X x) (hm : X.mg x = some (.ref f)) (hk : PySem.W.keepIn X.K (.ref f) = true) (hbd : Binds X.K fd ps []) (tk : Takes X W)
    (ha : PA X (e :: es) (oTA C W os)) (hn : os.length = np) (hb : borOk os = true) (hdb : (x == ("__debug__" : Str)) = false := by decide) (he : starEach (e :: es) X.env = (false, eval e X.env) :: starEach es X.env := by rfl) (hpl : (backTo pos (starEach es X.env)).any (·.1) = false := by rfl) :
    PE X (.Call (.Name x p) (e :: es) [] pos) (tM C W (mCall fn os)) :=
  pe_imp (pe_callS F hr hg hm hk hbd (fun σ => passAt tk σ) ha hdb he hpl) fun σ H Q q => by
    have h := call_run hn hb q
    rw [hK] at h
    exact h
end
end M

set_option Elab.async false
set_option linter.all false
set_option maxRecDepth 100000
set_option maxHeartbeats 4000000
namespace M
open PySem PySem.Spec PyProof.Rows L2

theorem room200 {k : Nat} {A : Around} (hr : Room k A) : A.units + 200 < cLine := by
  have := hr.un
  omega

/-- what deep looks need of the stack -/
structure Small (X : Cx) : Prop where
  u : X.A.units + 200 < cLine
theorem Small.blk {X : Cx} {s : Shared} {H : Hp} {sc : Scope} {env : Env} {fp : List Addr} (h : Small X) : Small (X.blk s H sc env fp) := ⟨h.u⟩
section
variable {X : Cx} {C : FC} {W : WX} {e a b : Expr} {pos : Pos} {A B E : Opd}
theorem op_eqS (hK : C.K = X.K) (hu : Small X) : OpR X (compareOp .Eq) (rD2 C (eqD false)) := op_eqM hK hu.u
theorem op_neS (hK : C.K = X.K) (hu : Small X) : OpR X (compareOp .NotEq) (rD2 C (eqD true)) := op_neM hK hu.u
theorem op_inS (hK : C.K = X.K) (hu : Small X) : OpR X (compareOp .In) (rD2 C (inD false)) := op_inM hK hu.u
theorem op_notInS (hK : C.K = X.K) (hu : Small X) : OpR X (compareOp .NotIn) (rD2 C (inD true)) := op_notInM hK hu.u
theorem g_idxS (hK : C.K = X.K) (hu : Small X) (ha : PE X a (oT C W A)) (hb : PE X b (oT C W B)) (hp : PlainIx b) (hn : NoSl b) : PE X (.Subscript a b pos) (tM C W (mOp [A, B] ixD)) := g_idx hK hu.u ha hb hp hn
theorem gs_setIS {i : Nat} {o v k : Expr} {p2 : Pos} (hu : Small X) (ho : PE X o (tVar i)) (hv : PE X v (oT C W E)) (hk : PE X k (oT C W A)) (hs : swapsWithSole [.Subscript o k p2] v pos.line X.env = pure false) (hw : swappedStores [.Subscript o k p2] v X.env = pure none)
    (hsub : ∀ u, assign (.Subscript o k p2) X.env u = (do
      let ov ← holding [u] (eval o X.env)
      let iv ← holding [u, ov] (eval k X.env)
      standAt p2
      holding [u, ov, iv] (setItem ov iv u)
      release [u, ov, iv] [])) :
    PS X (.Assign [.Subscript o k p2] v pos) (tMS C W (mSetI i E A)) := gs_setI hu.u ho hv hk hs hw hsub
end
theorem tgT_okK {C : FC} {K' : PySem.W.Frag} {bs is : List Nat} (hK : C.K = K') (hb : ∀ q ∈ C.bor, q.1 ∈ bs) (hi : is.all (fun i => !bs.contains i) = true) : TgOk C (gTup K' is.length (gNames is)) (tgT is) is := hK ▸ tgT_ok hb hi
/-! ### {} -/
def mDnew : En → RS Sl := fun e => .ok (.own (.dic [])) e
section
variable {X : Cx} {C : FC} {W : WX} {e a b : Expr} {es : List Expr} {pos : Pos} {A B : Opd} {os : List Opd}
theorem g_dnew : PE X (.Dict [] [] pos) (tM C W mDnew) := pe_imp pe_dnewK fun σ H Q q => by
  obtain ⟨F, env, k, h⟩ := tM_out q
  exact fun p hp => h F _ (Ex.refl F) (k.alloc hp) _ (k.own_res hp (.dic upd_same .nil))

/-! ### a dict of the module, text keys -/
/-- the module's dict at ad gives these -/
def KTab (K : PySem.W.Frag) (w : World) (ad : Addr) (t : List (Str × D)) : Prop := ∀ (z : Str) (d : D), t.lookup z = some d → ∃ v, KDct K w ad z v ∧ ∀ F, Rep K F v d
def gdD (t : List (Str × D)) : List D → Option Sl := fn1 fun
  | .str z => (t.lookup z).map .fro
  | _ => none
theorem g_gd {x : Str} {p : Pos} {ad : Addr} {t : List (Str × D)} (hK : C.K = X.K) (hg : Gl X x) (hm : X.mg x = some (.ref ad)) (ht : KTab X.K X.w ad t) (hb : PE X b (oT C W B)) (hp : PlainIx b) (hd : (x == ("__debug__" : Str)) = false := by decide) : PE X (.Subscript (.Name x p) b pos) (tM C W (mOp [B] (gdD t))) :=
  pe_imp (pe_ix ix_kdict (pe_glob hg hm (v := .ref ad) rfl hd) hb hp) fun σ H Q q => by
    have key : oTA C W [B] σ H fun vs H1 => rDN C (gdD t) vs H1 Q := mOp_run q
    refine oT_mono (fun y H1 (q1 : rDN C (gdD t) [y] H1 Q) => ?_) key
    obtain ⟨F, env, σ', d, s', k, r, e, q⟩ := rDN_one q1
    simp only [gdD, fn1] at e
    split at e
    · rename_i z
      cases hl : t.lookup z with
      | none => rw [hl] at e; cases e
      | some d =>
        rw [hl] at e
        cases e
        obtain ⟨v, hv, rv⟩ := ht z d hl
        exact ⟨ad, z, v, rfl, r.str, hv, q.sc k (hK ▸ rv F)⟩
    · cases e
/-- a module's int, text -/
theorem g_gint {x : Str} {p : Pos} {i : Int} {t : Tok} (hg : Gl X x) (hm : X.mg x = some (.int i t)) (hd : (x == ("__debug__" : Str)) = false := by decide) : PE X (.Name x p) (tM C W (mCon (.int i))) := g_con (pe_glob hg hm (v := .int i) ⟨t, rfl⟩ hd) fun _ => .int i
theorem g_gstr {x : Str} {p : Pos} {z : Str} {t : Tok} (hg : Gl X x) (hm : X.mg x = some (.str z t)) (hd : (x == ("__debug__" : Str)) = false := by decide) : PE X (.Name x p) (tM C W (mCon (.str z))) := g_con (pe_glob hg hm (v := .str z) ⟨t, rfl⟩ hd) fun _ => .str z
end

/-! ### defs by their names -/
section
variable (P : Program) (w : World) (K : PySem.W.Frag) (mg : Str → Option Value) (base : Heap) (ca : Str → Addr)
/-- the def x of the module runs as fn, k levels at most -/
def Has (x : Str) (ps : List Str) (k : Nat) (fn : List Sl → RS Sl) : Prop := ∃ f fd, mg x = some (.ref f) ∧ PySem.W.keepIn K (.ref f) = true ∧ Binds K fd ps [] ∧ (∃ oc od osl, K.lookup f = some ⟨oc, od, .func fd, osl⟩) ∧ FnOk P w K mg base (L2.CX P w) k f fd ps (spM K ca ps.length fn)
/-- the def x stands as the text has it -/
def Stands (x : Str) (ps : List Str) (st : Stmt) : Prop := ∃ f fd, mg x = some (.ref f) ∧ L2.Fun K x x st f fd ∧ Binds K fd ps []
end
section
variable {P : Program} {w : World} {K : PySem.W.Frag} {mg : Str → Option Value} {base : Heap} {ca : Str → Addr}
theorem Has.mono {x : Str} {ps : List Str} {j k : Nat} {fn : List Sl → RS Sl} (h : Has P w K mg base ca x ps j fn) (l : j ≤ k) : Has P w K mg base ca x ps k fn := by
  obtain ⟨f, fd, h1, h2, h3, h5, h4⟩ := h
  exact ⟨f, fd, h1, h2, h3, h5, h4.mono l⟩
theorem look_of {x : Str} {st : Stmt} {f : Addr} {fd : FuncData} (F : L2.Fun K x x st f fd) : ∃ oc od osl, K.lookup f = some ⟨oc, od, .func fd, osl⟩ := by
  obtain ⟨oc, od, kV, doc, pm, an, cdv, ct, osl, e1, e2, e3⟩ := F.ex
  exact ⟨oc, od, osl, e2⟩
theorem has_mk {x : Str} {ps N : List Str} {st : Stmt} {k : Nat} {bs : List Nat} {ms : En → Out} (s : Stands K mg x ps st) (S : FnScope N ps (defScope st))
    (hbody : ∀ (f : Addr) (cdv : Value) (A : Around) (outer : List Env) (s : Shared) (H : Hp) (E : XK) (C : FC), Room k (A.deeper (envOfC x (defScope st) s.heap.objs.size f cdv)) → C.K = K → C.ca = ca → (∀ q ∈ C.bor, q.1 ∈ bs) → Small (cxOf (L2.CX P w) P w K mg base N x (defScope st) f cdv A outer s H E) →
      PSs (cxOf (L2.CX P w) P w K mg base N x (defScope st) f cdv A outer s H E) (defBody st) (tMS C (fun cls d _ H => E cls d H) ms)) : Has P w K mg base ca x ps (k + 1) (fnRun N.length bs ms) := by
  obtain ⟨f, fd, hm, F, hb⟩ := s
  exact ⟨f, fd, hm, F.kp, hb, look_of F, fn_ok F S rfl fun cdv A outer s H E C h1 h2 h3 h4 => hbody f cdv A outer s H E C h1 h2 h3 h4 ⟨room200 h1⟩⟩
/-- nothing is promised -/
theorem has_bad {x : Str} {ps : List Str} {st : Stmt} {k : Nat} (s : Stands K mg x ps st) : Has P w K mg base ca x ps k (fun _ => .bad) := by
  obtain ⟨f, fd, hm, F, hb⟩ := s
  have no : ∀ vs H Q E, ¬ spM K ca ps.length (fun _ => .bad) vs H Q E := fun vs H Q E h => by
    obtain ⟨_, _, _, _, _, _, _, _, z⟩ := h
    exact z
  exact ⟨f, fd, hm, F.kp, hb, look_of F, ⟨fun vs H Q E h => absurd h (no vs H Q E), fun A outer s H args us vs Q E _ _ _ _ h => absurd h (no vs H Q E)⟩⟩
section
variable {X : Cx} {C : FC} {W : WX} {e : Expr} {es : List Expr} {pos : Pos} {os : List Opd} {fn : List Sl → RS Sl}
theorem gg_call {x : Str} {p : Pos} {k kk : Nat} {ps : List Str} (hK : C.K = X.K) (hca : C.ca = ca) (h : Has X.prog X.w X.K X.mg X.base ca x ps k fn) (hr : Room kk X.A) (hk : k ≤ kk) (hg : Gl X x) (tk : Takes X W)
    (ha : PA X (e :: es) (oTA C W os)) (hn : os.length = ps.length) (hb : borOk os = true) (hdb : (x == ("__debug__" : Str)) = false := by decide) (he : starEach (e :: es) X.env = (false, eval e X.env) :: starEach es X.env := by rfl) (hpl : (backTo pos (starEach es X.env)).any (·.1) = false := by rfl) :
    PE X (.Call (.Name x p) (e :: es) [] pos) (tM C W (mCall fn os)) := by
  obtain ⟨f, fd, hm, kp, hbd, _, F⟩ := h
  subst hca
  exact g_call hK F (hr.mono hk) hg hm kp hbd tk ha hn hb hdb he hpl
end
/-- the law's own call -/
theorem law_sp {H : Hp} {a : Addr} {ns : List Int} {fn : List Sl → RS Sl} {outs : En} (hS : SqL K H a (ns.map V.int)) (h : fn [.fro (.scr ns)] = .ok (.fro (.bl true)) outs) : spM K ca 1 fn [.ref a] H (fun v _ => v = .bl true) fun _ _ _ => False := by
  refine ⟨⟨K, H, H, [], ca, H, H⟩, [.fro (.scr ns)], rfl, rfl, rfl, rfl, ⟨Ex.refl H, Ex.refl H, Ex.refl H, Ex.refl H, (fun a ha => by cases ha), fun a _ _ => rfl, fun a h => h, rfl, (fun i s hs => ?_), (fun i j d d' b h1 h2 h3 h4 => ?_), (fun q hq => by cases hq)⟩, (fun q hq => by cases hq), ?_⟩
  · match i, hs with
    | 0, hs =>
      cases hs
      exact ⟨_, rfl, _, rfl, .scr hS⟩
    | i + 1, hs => simp at hs
  · match i, h1 with
    | 0, h1 => cases h1
    | i + 1, h1 => simp at h1
  · rw [h]
    intro v F' env' σ' H' _ _ r
    cases r
    rfl
end
end M

set_option Elab.async false
set_option linter.all false
set_option maxRecDepth 100000
set_option maxHeartbeats 4000000
namespace M
open PySem PySem.Spec PyProof.Rows L2 He
/-! ### the head's Hook: defs, facts, tables with text keys and their values -/
def toDv : D → Dv
  | .int i => .int i
  | .str x => .str x
  | _ => .non
def flat (t : List (Str × D)) : Bool := t.all fun p => match p.2 with
  | .int _ => true
  | .str _ => true
  | _ => false
abbrev AlV : Type := AlT × Bool
abbrev VTab : Type := Str × List (Str × D)
def tabsOf (vt : List VTab) : List Tab := vt.map fun t => ((fun K => ga K t.1), t.2.map (·.1))
def valsOf (vt : List VTab) (K : PySem.W.Frag) : Bool := vt.all fun t => valsB K (ga K t.1) (t.2.map fun p => (p.1, toDv p.2))
def obsV (fa : List Fa) (fn : List DefD) (vt : List VTab) (K : PySem.W.Frag) : AlV := (obsT fa fn (tabsOf vt) K, valsOf vt K)
def obsVG (n : Nat) (fa : List Fa) (fn : List DefD) (vt : List VTab) (g : Addr → Option Obj) : AlV := obsV fa fn vt (frG g (asD g n))
def SaysV (fa : List Fa) (fn : List DefD) (vt : List VTab) (w : World) (K : PySem.W.Frag) : Prop := obsV fa fn vt K = (valT fn (tabsOf vt) w, true)
def hookV (n : Nat) (fa : List Fa) (fn : List DefD) (vt : List VTab) : PySem.W.Hook where
  α := AlV
  obs := fun s => obsVG n fa fn vt s.heap.get?
  val := fun w => (valT fn (tabsOf vt) w, true)
  says := fun w h => ∃ K : PySem.W.Frag, K.In h ∧ SaysV fa fn vt w K
  of := fun _ _ e => ⟨_, frG_in, e⟩
  keeps := fun _ _ _ ⟨K, hK, c⟩ k => ⟨K, PySem.W.Frag.In.keeps hK k, c⟩
theorem obsVG_eq {n : Nat} {fa : List Fa} {fn : List DefD} {vt : List VTab} {g : Addr → Option Obj} {s : Shared} (h : ∀ a, g a = s.heap.get? a) : obsVG n fa fn vt g = (hookV n fa fn vt).obs s := by
  have e : g = s.heap.get? := funext h
  rw [e] <;> rfl
theorem lookup_mem {t : List (Str × D)} {z : Str} {d : D} (h : t.lookup z = some d) : (z, d) ∈ t := by
  induction t with
  | nil => cases h
  | cons p r ih =>
    obtain ⟨y, e⟩ := p
    simp only [List.lookup] at h
    split at h
    · rename_i q
      cases h
      rw [eq_of_beq q]
      exact List.mem_cons_self
    · exact List.mem_cons_of_mem _ (ih h)
section
variable {fa : List Fa} {fn : List DefD} {vt : List VTab} {w : World} {K : PySem.W.Frag}
theorem SaysV.t (c : SaysV fa fn vt w K) : SaysT fa fn (tabsOf vt) w K := congrArg (fun z : AlV => z.1) c
theorem SaysV.fact (c : SaysV fa fn vt w K) (i : Nat) {f : Fa} (h : fa[i]? = some f := by rfl) : f.ok K = true := c.t.d.fact i h
theorem SaysV.tab (c : SaysV fa fn vt w K) (i : Nat) {x : Str} {t : List (Str × D)} (h : vt[i]? = some (x, t) := by rfl) (hf : flat t = true := by rfl) : KTab K w (ga K x) t := fun z d hz => by
  have e1 : (tabsOf vt)[i]? = some ((fun K => ga K x), t.map (·.1)) := by
    unfold tabsOf
    rw [List.getElem?_map, h]
    rfl
  obtain ⟨es, n, kd⟩ := c.t.tab i e1
  have e2 : valsOf vt K = true := congrArg (fun z : AlV => z.2) c
  have e3 := List.all_eq_true.mp e2 _ (List.mem_of_getElem? h)
  have m := lookup_mem hz
  obtain ⟨u, hu, ru⟩ := valsB_ok e3 (q := (z, toDv d)) (List.mem_map.mpr ⟨_, m, rfl⟩)
  have fl := List.all_eq_true.mp hf _ m
  refine ⟨(toDv d).v K, ⟨es, n, u, kd.1, kd.2, hu, ru⟩, fun F => ?_⟩
  cases d with
  | int i => exact .int i
  | str x => exact .str x
  | _ => cases fl
theorem SaysV.stands (c : SaysV fa fn vt w K) {h : Heap} {mg : Str → Option Value} (X : K.In h) (G : h.Ns mainGlobals mg) (i j : Nat) {x : Str} {st : Stmt} {ps : List Str} (hd : fn[i]? = some ⟨(x, none), x, x, defArgs st, defBody st, defScope st, [], []⟩) (hg : fa[j]? = some (.glo x)) (hps : ∀ {fd : FuncData}, FunD K x x (defArgs st) (defBody st) (defScope st) [] [] (ga K x) fd → Binds K fd ps []) : Stands K mg x ps st := by
  obtain ⟨fd, F⟩ := c.t.d.def_ i hd
  refine ⟨_, fd, glo_ok X G (c.fact j hg), ?_, hps F⟩
  obtain ⟨⟨oc, od, dV, kV, doc, pm, an, cdv, ct, osl, e1, e2, e3, e4, e5⟩, kp⟩ := F
  rcases e4 with ⟨_, e4⟩ | ⟨e4, _⟩
  · subst e4
    exact ⟨⟨oc, od, kV, doc, pm, an, cdv, ct, osl, e1, e2, e3⟩, kp⟩
  · exact absurd rfl e4
end
end M

set_option Elab.async false
set_option linter.all false
set_option maxRecDepth 100000
set_option maxHeartbeats 4000000
namespace M
open PySem PySem.Spec PyProof.Rows L2 He
/-- a law over a head by facts, what is let out by the world -/
theorem walk_M {l : PySem.W.OpenLaw} {n k : Nat} {q : Program} {loose : List Str} {XP : (Str → Option Value) → Heap → Prop} {YP : World → Heap → Prop} {d : DefRec} {x : Str} {fn : List Sl → RS Sl}
    (hn : l.most = some n) (hn2 : n ≤ sizeLine) (hdf : d.params.defaults = []) (hr : Room k callerA)
    (F : ∀ (w : World) (mg : Str → Option Value) (fa : Addr) (h : Heap), YP w h → h.Ns mainGlobals mg → mg d.name = some (.ref fa) →
      ∃ (K : PySem.W.Frag) (ca : Str → Addr) (fd : FuncData), K.In h ∧ (∀ (s : Shared) (u : Value), BindsTo s fd ⟨[u], []⟩ [(x, u)]) ∧
        ∀ base : Heap, K.In base → base.Ns mainGlobals mg → FnOk l.prog w K mg base (L2.CX l.prog w) k fa fd [x] (spM K ca 1 fn))
    (law : ∀ ns : List Int, ns.length ≤ n → ∃ outs, fn [.fro (.scr ns)] = .ok (.fro (.bl true)) outs) :
    PySem.W.WalkO q loose XP YP l.row.toRowW d [] (fun f vs => PySem.call f vs) := by
  refine Att.attach_call hn hdf fun w s₀ s₁ mg mb fa o pm cd doc a vs ns G Y ho hd hcd hmg hobj hints hlen hg => ?_
  obtain ⟨K, ca, fd, KX, hb, hF⟩ := F w mg fa _ Y G.T.g hmg
  exact law_call KX G.T.g G.T.b G.T.builtins G.T.nolimit hg hobj hints (Nat.le_trans hlen hn2) hr hF hb (fun H hO hS => by
    obtain ⟨outs, e⟩ := law ns hlen
    exact law_sp hS e) fun H e s' c => by
    obtain ⟨_, _, _, _, _, _, _, _, _, _, _, _, z⟩ := c
    exact z.elim
theorem law_facts {P : Program} {w : World} {K : PySem.W.Frag} {mg : Str → Option Value} {ca : Str → Addr} {h : Heap} {x y : Str} {st : Stmt} {fn : List Sl → RS Sl} {k : Nat} {f : Addr} (X : K.In h) (hmg : mg x = some (.ref f))
    (st0 : Stands K mg x [y] st) (hbind : ∀ {fd : FuncData}, L2.Fun K x x st f fd → ∀ (s : Shared) (u : Value), BindsTo s fd ⟨[u], []⟩ [(y, u)]) (H : ∀ base : Heap, Has P w K mg base ca x [y] k fn) :
    ∃ fd : FuncData, (∀ (s : Shared) (u : Value), BindsTo s fd ⟨[u], []⟩ [(y, u)]) ∧ ∀ base : Heap, FnOk P w K mg base (L2.CX P w) k f fd [y] (spM K ca 1 fn) := by
  obtain ⟨f0, fd, e, F, b⟩ := st0
  rw [hmg] at e
  cases e
  refine ⟨fd, hbind F, fun base => ?_⟩
  obtain ⟨f1, fd1, e1, k1, b1, ⟨oc, od, osl, l1⟩, F1⟩ := H base
  rw [hmg] at e1
  cases e1
  obtain ⟨oc2, od2, osl2, l2⟩ := look_of F
  rw [l1] at l2
  cases l2
  exact F1
end M

set_option Elab.async false
set_option linter.all false
set_option maxRecDepth 100000
set_option maxHeartbeats 4000000
namespace K83
open PySem PySem.Spec PyProof.Rows L2 M
section
variable {P : Program} {w : World} {K : PySem.W.Frag} {mg : Str → Option Value} {base : Heap} {ca : Str → Addr}
def top (i : Nat) : Stmt := PySem.Challenge.pw_betweentwoclocks_k83_shallow_trees.main.body.getD i (.Pass ⟨0, 0, 0, 0⟩)
def tb_NOT : List (Str × D) := [("0", .str "1"), ("1", .str "0"), ("x", .str "x")]
def tb_AND : List (Str × D) := [("00", .str "0"), ("01", .str "0"), ("0x", .str "0"), ("10", .str "0"), ("11", .str "1"), ("1x", .str "x"), ("x0", .str "0"), ("x1", .str "x"), ("xx", .str "x")]
def tb_OR : List (Str × D) := [("00", .str "0"), ("01", .str "1"), ("0x", .str "x"), ("10", .str "1"), ("11", .str "1"), ("1x", .str "1"), ("x0", .str "x"), ("x1", .str "1"), ("xx", .str "x")]
def tb_XOR : List (Str × D) := [("00", .str "0"), ("01", .str "1"), ("0x", .str "x"), ("10", .str "1"), ("11", .str "0"), ("1x", .str "x"), ("x0", .str "x"), ("x1", .str "x"), ("xx", .str "x")]
def tb_WORDS : List (Str × D) := [("&", .str "and"), ("^", .str "xor"), ("|", .str "or")]
def tb_GROWTH : List (Str × D) := [("wire", .int 1), ("const", .int 1), ("not", .int 0), ("and", .int (-1)), ("xor", .int (-1)), ("or", .int (-1)), ("keep", .int (-1)), ("next", .int (-1))]
/-! ### value_of: 0 tree, 1 signs, 2 left, 3 pair -/
abbrev s_value_of : Stmt := top 7
theorem sc_value_of : FnScope ["tree", "signs", "left", "pair"] ["tree", "signs"] (defScope s_value_of) := ⟨rfl, rfl, rfl, by decide +kernel, rfl, by decide +kernel, by decide +kernel⟩
def b_value_of (c_value_of : List Sl → RS Sl) : En → Out := mSeq (mIfS (mB (mOp [.pk 0] (isiD "str")))
  (mSeq (mIfS (mOr (mB (mOp [.pk 0, .val (mCon (.str "0"))] (eqD false))) (mB (mOp [.pk 0, .val (mCon (.str "1"))] (eqD false))))
  (mRet (mMov 0))
  (mNext))
  (mSeq (mIfS (mB (mOp [.pk 0, .val (mCon (.str "?"))] (eqD false)))
  (mRet (mCon (.str "x")))
  (mNext))
  (mRet (mOp [.pk 1, .pk 0] ixD))))
  (mNext))
  (mSeq (mAsg 2 (mCall c_value_of [.val (mOp [.pk 0, .val (mCon (.int 1))] ixD), .pk 1]))
  (mSeq (mIfS (mB (mOp [.val (mOp [.pk 0, .val (mCon (.int 0))] ixD), .val (mCon (.str "!"))] (eqD false)))
  (mRet (mOp [.pk 2] (gdD tb_NOT)))
  (mNext))
  (mSeq (mAsg 3 (mOp [.pk 2, .val (mCall c_value_of [.val (mOp [.pk 0, .val (mCon (.int 2))] ixD), .pk 1])] addD))
  (mSeq (mIfS (mB (mOp [.val (mOp [.pk 0, .val (mCon (.int 0))] ixD), .val (mCon (.str "&"))] (eqD false)))
  (mRet (mOp [.pk 3] (gdD tb_AND)))
  (mNext))
  (mSeq (mIfS (mB (mOp [.val (mOp [.pk 0, .val (mCon (.int 0))] ixD), .val (mCon (.str "|"))] (eqD false)))
  (mRet (mOp [.pk 3] (gdD tb_OR)))
  (mNext))
  (mRet (mOp [.pk 3] (gdD tb_XOR))))))))
def r_value_of : Nat → List Sl → RS Sl
  | 0 => fun _ => .bad
  | n + 1 => fnRun 4 [] (b_value_of (r_value_of n))
/-! ### is_ready: 0 word, 1 size -/
abbrev s_is_ready : Stmt := top 12
theorem sc_is_ready : FnScope ["word", "size"] ["word", "size"] (defScope s_is_ready) := ⟨rfl, rfl, rfl, by decide +kernel, rfl, by decide +kernel, by decide +kernel⟩
def b_is_ready : En → Out := mSeq (mIfS (mOr (mB (mOp [.pk 0, .val (mCon (.str "keep"))] (eqD false))) (mB (mOp [.pk 0, .val (mCon (.str "next"))] (eqD false))))
  (mRet (mOp [.pk 1, .val (mCon (.int 1))] (eqD false)))
  (mNext))
  (mSeq (mIfS (mB (mOp [.pk 0, .val (mCon (.str "not"))] (eqD false)))
  (mRet (mOp [.pk 1, .val (mCon (.int 1))] geD))
  (mNext))
  (mRet (mOrV (mOp [.pk 1, .val (mCon (.int 2))] geD) (mOrV (mOp [.pk 0, .val (mCon (.str "wire"))] (eqD false)) (mOp [.pk 0, .val (mCon (.str "const"))] (eqD false))))))
def r_is_ready : List Sl → RS Sl := fnRun 2 [] b_is_ready
/-! ### _append_code: 0 tree, 1 code -/
abbrev s__append_code : Stmt := top 14
theorem sc__append_code : FnScope ["tree", "code"] ["tree", "code"] (defScope s__append_code) := ⟨rfl, rfl, rfl, by decide +kernel, rfl, by decide +kernel, by decide +kernel⟩
def b__append_code (c__append_code : List Sl → RS Sl) : En → Out := mSeq (mIfS (mB (mOp [.pk 0] (isiD "str")))
  (mSeq (mIfS (mB (mOp [.pk 0, .val (mCon (.str "?"))] (eqD false)))
  (mAppend 1 (.val (mTup [.val (mCon (.str "const")), .val (mCon (.str "x"))])))
  (mIfS (mOr (mB (mOp [.pk 0, .val (mCon (.str "0"))] (eqD false))) (mB (mOp [.pk 0, .val (mCon (.str "1"))] (eqD false))))
  (mAppend 1 (.val (mTup [.val (mCon (.str "const")), .pk 0])))
  (mAppend 1 (.val (mTup [.val (mCon (.str "wire")), .pk 0])))))
  (mRetN))
  (mNext))
  (mSeq (mDrop (mCall c__append_code [.val (mOp [.pk 0, .val (mCon (.int 1))] ixD), .bor 1]))
  (mIfS (mB (mOp [.val (mOp [.pk 0, .val (mCon (.int 0))] ixD), .val (mCon (.str "!"))] (eqD false)))
  (mAppend 1 (.val (mTup [.val (mCon (.str "not"))])))
  (mSeq (mDrop (mCall c__append_code [.val (mOp [.pk 0, .val (mCon (.int 2))] ixD), .bor 1]))
  (mAppend 1 (.val (mTup [.val (mOp [.val (mOp [.pk 0, .val (mCon (.int 0))] ixD)] (gdD tb_WORDS))]))))))
def r__append_code : Nat → List Sl → RS Sl
  | 0 => fun _ => .bad
  | n + 1 => fnRun 2 [1] (b__append_code (r__append_code n))
/-! ### postfix: 0 tree, 1 code -/
abbrev s_postfix : Stmt := top 13
theorem sc_postfix : FnScope ["tree", "code"] ["tree"] (defScope s_postfix) := ⟨rfl, rfl, rfl, by decide +kernel, rfl, by decide +kernel, by decide +kernel⟩
def b_postfix : En → Out := mSeq (mAsg 1 (mLst []))
  (mSeq (mDrop (mCall (r__append_code 90) [.pk 0, .bor 1]))
  (mRet (mMov 1)))
def r_postfix : List Sl → RS Sl := fnRun 2 [] b_postfix
/-! ### depth_of: 0 code, 1 depth, 2 size, 3 at, 4 instruction -/
abbrev s_depth_of : Stmt := top 15
theorem sc_depth_of : FnScope ["code", "depth", "size", "at", "instruction"] ["code"] (defScope s_depth_of) := ⟨rfl, rfl, rfl, by decide +kernel, rfl, by decide +kernel, by decide +kernel⟩
def l0_depth_of : En → Out := mSeq (mIfS (mNot (mB (mCall r_is_ready [.val (mOp [.pk 4, .val (mCon (.int 0))] ixD), .val (mVar 2)])))
  (mNever)
  (mNext))
  (mSeq (mAug (fun i j => i + j) 2 (mOp [.val (mOp [.pk 4, .val (mCon (.int 0))] ixD)] (gdD tb_GROWTH)))
  (mAsg 1 (mOp [.pk 1, .pk 2] maxD)))
def b_depth_of : En → Out := mSeq (mAsg 1 (mCon (.int 0)))
  (mSeq (mAsg 2 (mCon (.int 0)))
  (mSeq (mFor (mSrc [.pk 0] enmF) (tgT [3, 4]) (l0_depth_of))
  (mSeq (mIfS (mB (mOp [.pk 2, .val (mCon (.int 0))] gtD))
  (mNever)
  (mNext))
  (mRet (mMov 1)))))
def r_depth_of : List Sl → RS Sl := fnRun 5 [] b_depth_of
/-! ### _shallow: 0 tree, 1 left, 2 need, 3 right, 4 other -/
abbrev s__shallow : Stmt := top 16
theorem sc__shallow : FnScope ["tree", "left", "need", "right", "other"] ["tree"] (defScope s__shallow) := ⟨rfl, rfl, rfl, by decide +kernel, rfl, by decide +kernel, by decide +kernel⟩
def b__shallow (c__shallow : List Sl → RS Sl) : En → Out := mSeq (mIfS (mB (mOp [.pk 0] (isiD "str")))
  (mRet (mTup [.pk 0, .val (mCon (.int 1))]))
  (mNext))
  (mSeq (mUnp [1, 2] (mCall c__shallow [.val (mOp [.pk 0, .val (mCon (.int 1))] ixD)]))
  (mSeq (mIfS (mB (mOp [.val (mOp [.pk 0, .val (mCon (.int 0))] ixD), .val (mCon (.str "!"))] (eqD false)))
  (mRet (mTup [.val (mTup [.val (mCon (.str "!")), .val (mVar 1)]), .val (mVar 2)]))
  (mNext))
  (mSeq (mUnp [3, 4] (mCall c__shallow [.val (mOp [.pk 0, .val (mCon (.int 2))] ixD)]))
  (mSeq (mIfS (mB (mOp [.pk 4, .pk 2] gtD))
  (mRet (mTup [.val (mTup [.val (mOp [.pk 0, .val (mCon (.int 0))] ixD), .val (mVar 3), .val (mVar 1)]), .val (mVar 4)]))
  (mNext))
  (mRet (mTup [.val (mTup [.val (mOp [.pk 0, .val (mCon (.int 0))] ixD), .val (mVar 1), .val (mVar 3)]), .val (mOp [.pk 2, .val (mOp [.pk 4, .val (mCon (.int 1))] addD)] maxD)]))))))
def r__shallow : Nat → List Sl → RS Sl
  | 0 => fun _ => .bad
  | n + 1 => fnRun 5 [] (b__shallow (r__shallow n))
/-! ### shallow: 0 tree -/
abbrev s_shallow : Stmt := top 17
theorem sc_shallow : FnScope ["tree"] ["tree"] (defScope s_shallow) := ⟨rfl, rfl, rfl, by decide +kernel, rfl, by decide +kernel, by decide +kernel⟩
def b_shallow : En → Out := mRet (mOp [.val (mCall (r__shallow 90) [.pk 0]), .val (mCon (.int 0))] ixD)
def r_shallow : List Sl → RS Sl := fnRun 1 [] b_shallow
/-! ### _law_cell: 0 script, 1 k -/
abbrev s__law_cell : Stmt := top 19
theorem sc__law_cell : FnScope ["script", "k"] ["script", "k"] (defScope s__law_cell) := ⟨rfl, rfl, rfl, by decide +kernel, rfl, by decide +kernel, by decide +kernel⟩
def b__law_cell : En → Out := mSeq (mIfS (mB (mOp [.pk 1, .val (mOp [.pk 0] lenD)] ltD))
  (mRet (mOp [.pk 0, .pk 1] ixD))
  (mNext))
  (mRet (mCon (.int 0)))
def r__law_cell : List Sl → RS Sl := fnRun 2 [] b__law_cell
/-! ### _law_numbers: 0 cell, 1 base, 2 count, 3 numbers, 4 rest, 5 mixed, 6 k -/
abbrev s__law_numbers : Stmt := top 20
theorem sc__law_numbers : FnScope ["cell", "base", "count", "numbers", "rest", "mixed", "k"] ["cell", "base", "count"] (defScope s__law_numbers) := ⟨rfl, rfl, rfl, by decide +kernel, rfl, by decide +kernel, by decide +kernel⟩
def l0__law_numbers : En → Out := mSeq (mAsg 5 (mOp [.val (mOp [.val (mOp [.val (mOp [.val (mOp [.pk 5, .val (mCon (.int 16807))] mulD), .pk 6] addD), .val (mCon (.int 40692))] addD)] intD), .val (mCon (.int 2147483647))] modD))
  (mIfS (mAnd (mB (mOp [.pk 0, .val (mOp [.val (mCon (.int 10)), .val (mCon (.int 18))] powD)] geD)) (mB (mOp [.pk 4, .val (mCon (.int 0))] gtD)))
  (mSeq (mAppend 3 (.val (mOp [.val (mOp [.pk 4] intD), .pk 1] modD)))
  (mAsg 4 (mOp [.pk 4, .pk 1] fdivD)))
  (mAppend 3 (.val (mOp [.val (mOp [.pk 5, .val (mCon (.int 11))] fdivD), .pk 1] modD))))
def b__law_numbers : En → Out := mSeq (mAsg 3 (mLst []))
  (mSeq (mAsg 4 (mVar 0))
  (mSeq (mAsg 5 (mOp [.val (mOp [.val (mOp [.val (mOp [.pk 0, .val (mCon (.int 48271))] mulD), .val (mCon (.int 7))] addD)] intD), .val (mCon (.int 2147483647))] modD))
  (mSeq (mFor (mSrc [.pk 2] rng1) (tgN 6) (l0__law_numbers))
  (mRet (mMov 3)))))
def r__law_numbers : List Sl → RS Sl := fnRun 7 [] b__law_numbers
/-! ### _law_names: 0 cell, 1 count, 2 letters, 3 numbers, 4 names, 5 k, 6 row, 7 rest, 8 number -/
abbrev s__law_names : Stmt := top 21
theorem sc__law_names : FnScope ["cell", "count", "letters", "numbers", "names", "k", "row", "rest", "number"] ["cell", "count"] (defScope s__law_names) := ⟨rfl, rfl, rfl, by decide +kernel, rfl, by decide +kernel, by decide +kernel⟩
def e0__law_names : En → RS Sl := mOp [.pk 2, .val (mOp [.val (mOp [.pk 8] intD), .val (mCon (.int 36))] modD)] ixD
def l0__law_names : En → Out := mSeq (mAsg 6 (mOp [.pk 3, .val (mInt (mOp [.val (mOp [.val (mCon (.int 6)), .pk 5] mulD), .val (mCon (.int 1))] addD)), .val (mOp [.val (mOp [.val (mCon (.int 6)), .pk 5] mulD), .val (mCon (.int 7))] addD)] sl11))
  (mSeq (mAsg 7 (mOp [.val (mLc (mSrc [.val (mOp [.pk 6, .val (mInt (mCon (.int 1))), .val (mOp [.val (mCon (.int 1)), .val (mOp [.val (mOp [.val (mOp [.pk 6, .val (mCon (.int 5))] ixD)] intD), .val (mCon (.int 5))] modD)] addD)] sl11)] srcF) (tgN 8) (mYes) (e0__law_names) [8])] (joinD "")))
  (mIfS (mB (mOp [.val (mOp [.val (mOp [.val (mOp [.pk 3, .val (mCon (.int 0))] ixD)] intD), .val (mCon (.int 2))] modD), .val (mCon (.int 0))] (eqD false)))
  (mAppend 4 (.val (mOp [.val (mOp [.val (mOp [.pk 2, .val (mOp [.val (mOp [.val (mOp [.pk 6, .val (mCon (.int 0))] ixD)] intD), .val (mCon (.int 26))] modD)] ixD), .val (mOp [.pk 2, .pk 5] ixD)] addD), .pk 7] addD)))
  (mAppend 4 (.val (mOp [.val (mOp [.val (mOp [.pk 2, .val (mOp [.val (mOp [.val (mOp [.pk 6, .val (mCon (.int 0))] ixD)] intD), .val (mCon (.int 26))] modD)] ixD), .pk 7] addD), .val (mOp [.pk 2, .val (mOp [.val (mCon (.int 35)), .pk 5] subD)] ixD)] addD)))))
def b__law_names : En → Out := mSeq (mAsg 2 (mCon (.str "abcdefghijklmnopqrstuvwxyz0123456789")))
  (mSeq (mAsg 3 (mCall r__law_numbers [.pk 0, .val (mCon (.int 180)), .val (mOp [.val (mOp [.val (mCon (.int 6)), .pk 1] mulD), .val (mCon (.int 1))] addD)]))
  (mSeq (mAsg 4 (mLst []))
  (mSeq (mFor (mSrc [.pk 1] rng1) (tgN 5) (l0__law_names))
  (mRet (mMov 4)))))
def r__law_names : List Sl → RS Sl := fnRun 9 [] b__law_names
/-! ### _law_tree: 0 numbers, 1 names, 2 leaves, 3 pool, 4 number, 5 kind, 6 leaf, 7 sign, 8 at, 9 last, 10 tree, 11 part -/
abbrev s__law_tree : Stmt := top 22
theorem sc__law_tree : FnScope ["numbers", "names", "leaves", "pool", "number", "kind", "leaf", "sign", "at", "last", "tree", "part"] ["numbers", "names"] (defScope s__law_tree) := ⟨rfl, rfl, rfl, by decide +kernel, rfl, by decide +kernel, by decide +kernel⟩
def l0__law_tree : En → Out := mSeq (mAsg 5 (mOp [.val (mOp [.pk 4] intD), .val (mCon (.int 6))] modD))
  (mSeq (mAsg 6 (mOp [.pk 2, .val (mOp [.val (mOp [.val (mOp [.pk 4, .val (mCon (.int 6))] fdivD)] intD), .val (mOp [.pk 2] lenD)] modD)] ixD))
  (mSeq (mAsg 7 (mOp [.val (mCon (.str "&^|")), .val (mOp [.val (mOp [.val (mOp [.pk 4, .val (mCon (.int 60))] fdivD)] intD), .val (mCon (.int 3))] modD)] ixD))
  (mSeq (mAsg 8 (mOp [.val (mOp [.val (mOp [.pk 4, .val (mCon (.int 180))] fdivD)] intD), .val (mOp [.pk 3] lenD)] modD))
  (mIfS (mB (mOp [.pk 5, .val (mCon (.int 0))] (eqD false)))
  (mSetI 3 (.val (mTup [.val (mCon (.str "!")), .val (mOp [.pk 3, .pk 8] ixD)])) (.pk 8))
  (mIfS (mB (mOp [.pk 5, .val (mCon (.int 1))] (eqD false)))
  (mAppend 3 (.val (mVar 6)))
  (mIfS (mB (mOp [.pk 5, .val (mCon (.int 2))] (eqD false)))
  (mSetI 3 (.val (mTup [.val (mVar 7), .val (mVar 6), .val (mOp [.pk 3, .pk 8] ixD)])) (.pk 8))
  (mIfS (mAnd (mB (mOp [.pk 5, .val (mCon (.int 3))] (eqD false))) (mB (mOp [.val (mOp [.pk 3] lenD), .val (mCon (.int 1))] gtD)))
  (mSeq (mAsg 9 (mPop 3))
  (mSetI 3 (.val (mTup [.val (mVar 7), .val (mOp [.pk 3, .val (mOp [.val (mCon (.int 1))] negD)] ixD), .val (mVar 9)])) (.val (mOp [.val (mCon (.int 1))] negD))))
  (mSetI 3 (.val (mTup [.val (mVar 7), .val (mOp [.pk 3, .pk 8] ixD), .val (mVar 6)])) (.pk 8)))))))))
def l1__law_tree : En → Out := mAsg 10 (mTup [.val (mOp [.val (mCon (.str "&^|")), .val (mOp [.val (mOp [.val (mOp [.val (mOp [.pk 3] lenD), .val (mOp [.pk 0, .val (mCon (.int 0))] ixD)] addD)] intD), .val (mCon (.int 3))] modD)] ixD), .val (mVar 10), .val (mVar 11)])
def b__law_tree : En → Out := mSeq (mAsg 2 (mOp [.pk 1, .val (mLst [.val (mCon (.str "0")), .val (mCon (.str "1")), .val (mCon (.str "?"))])] addD))
  (mSeq (mAsg 3 (mLst [.val (mOp [.pk 2, .val (mOp [.val (mOp [.val (mOp [.pk 0, .val (mCon (.int 0))] ixD)] intD), .val (mOp [.pk 2] lenD)] modD)] ixD)]))
  (mSeq (mFor (mSrc [.val (mOp [.pk 0, .val (mCon (.int 1))] sl10)] srcF) (tgN 4) (l0__law_tree))
  (mSeq (mAsg 10 (mOp [.pk 3, .val (mCon (.int 0))] ixD))
  (mSeq (mFor (mSrc [.val (mOp [.pk 3, .val (mCon (.int 1))] sl10)] srcF) (tgN 11) (l1__law_tree))
  (mRet (mMov 10))))))
def r__law_tree : List Sl → RS Sl := fnRun 12 [] b__law_tree
/-! ### _law_stack_need: 0 tree, 1 first -/
abbrev s__law_stack_need : Stmt := top 23
theorem sc__law_stack_need : FnScope ["tree", "first"] ["tree"] (defScope s__law_stack_need) := ⟨rfl, rfl, rfl, by decide +kernel, rfl, by decide +kernel, by decide +kernel⟩
def b__law_stack_need (c__law_stack_need : List Sl → RS Sl) : En → Out := mSeq (mIfS (mB (mOp [.pk 0] (isiD "str")))
  (mRet (mCon (.int 1)))
  (mNext))
  (mSeq (mAsg 1 (mCall c__law_stack_need [.val (mOp [.pk 0, .val (mCon (.int 1))] ixD)]))
  (mSeq (mIfS (mB (mOp [.val (mOp [.pk 0, .val (mCon (.int 0))] ixD), .val (mCon (.str "!"))] (eqD false)))
  (mRet (mMov 1))
  (mNext))
  (mRet (mOp [.pk 1, .val (mOp [.val (mCall c__law_stack_need [.val (mOp [.pk 0, .val (mCon (.int 2))] ixD)]), .val (mCon (.int 1))] addD)] maxD))))
def r__law_stack_need : Nat → List Sl → RS Sl
  | 0 => fun _ => .bad
  | n + 1 => fnRun 2 [] (b__law_stack_need (r__law_stack_need n))
/-! ### _law_least_need: 0 tree, 1 first, 2 second -/
abbrev s__law_least_need : Stmt := top 24
theorem sc__law_least_need : FnScope ["tree", "first", "second"] ["tree"] (defScope s__law_least_need) := ⟨rfl, rfl, rfl, by decide +kernel, rfl, by decide +kernel, by decide +kernel⟩
def b__law_least_need (c__law_least_need : List Sl → RS Sl) : En → Out := mSeq (mIfS (mB (mOp [.pk 0] (isiD "str")))
  (mRet (mCon (.int 1)))
  (mNext))
  (mSeq (mAsg 1 (mCall c__law_least_need [.val (mOp [.pk 0, .val (mCon (.int 1))] ixD)]))
  (mSeq (mIfS (mB (mOp [.val (mOp [.pk 0, .val (mCon (.int 0))] ixD), .val (mCon (.str "!"))] (eqD false)))
  (mRet (mMov 1))
  (mNext))
  (mSeq (mAsg 2 (mCall c__law_least_need [.val (mOp [.pk 0, .val (mCon (.int 2))] ixD)]))
  (mRet (mOp [.val (mOp [.pk 1, .pk 2] maxD), .val (mOp [.val (mOp [.pk 1, .pk 2] (eqD false))] intD)] addD)))))
def r__law_least_need : Nat → List Sl → RS Sl
  | 0 => fun _ => .bad
  | n + 1 => fnRun 3 [] (b__law_least_need (r__law_least_need n))
/-! ### _law_shallow: 0 tree, 1 first, 2 second -/
abbrev s__law_shallow : Stmt := top 25
theorem sc__law_shallow : FnScope ["tree", "first", "second"] ["tree"] (defScope s__law_shallow) := ⟨rfl, rfl, rfl, by decide +kernel, rfl, by decide +kernel, by decide +kernel⟩
def b__law_shallow (c__law_shallow : List Sl → RS Sl) : En → Out := mSeq (mIfS (mB (mOp [.pk 0] (isiD "str")))
  (mRet (mMov 0))
  (mNext))
  (mSeq (mAsg 1 (mCall c__law_shallow [.val (mOp [.pk 0, .val (mCon (.int 1))] ixD)]))
  (mSeq (mIfS (mB (mOp [.val (mOp [.pk 0, .val (mCon (.int 0))] ixD), .val (mCon (.str "!"))] (eqD false)))
  (mRet (mTup [.val (mCon (.str "!")), .val (mVar 1)]))
  (mNext))
  (mSeq (mAsg 2 (mCall c__law_shallow [.val (mOp [.pk 0, .val (mCon (.int 2))] ixD)]))
  (mSeq (mIfS (mB (mOp [.val (mCall (r__law_least_need 90) [.val (mVar 2)]), .val (mCall (r__law_least_need 90) [.val (mVar 1)])] gtD))
  (mRet (mTup [.val (mOp [.pk 0, .val (mCon (.int 0))] ixD), .val (mVar 2), .val (mVar 1)]))
  (mNext))
  (mRet (mTup [.val (mOp [.pk 0, .val (mCon (.int 0))] ixD), .val (mVar 1), .val (mVar 2)]))))))
def r__law_shallow : Nat → List Sl → RS Sl
  | 0 => fun _ => .bad
  | n + 1 => fnRun 3 [] (b__law_shallow (r__law_shallow n))
/-! ### _law_exchanged: 0 tree, 1 bits, 2 first, 3 second -/
abbrev s__law_exchanged : Stmt := top 26
theorem sc__law_exchanged : FnScope ["tree", "bits", "first", "second"] ["tree", "bits"] (defScope s__law_exchanged) := ⟨rfl, rfl, rfl, by decide +kernel, rfl, by decide +kernel, by decide +kernel⟩
def b__law_exchanged (c__law_exchanged : List Sl → RS Sl) : En → Out := mSeq (mIfS (mB (mOp [.pk 0] (isiD "str")))
  (mRet (mMov 0))
  (mNext))
  (mSeq (mAsg 2 (mCall c__law_exchanged [.val (mOp [.pk 0, .val (mCon (.int 1))] ixD), .bor 1]))
  (mSeq (mIfS (mB (mOp [.val (mOp [.pk 0, .val (mCon (.int 0))] ixD), .val (mCon (.str "!"))] (eqD false)))
  (mRet (mTup [.val (mCon (.str "!")), .val (mVar 2)]))
  (mNext))
  (mSeq (mAsg 3 (mCall c__law_exchanged [.val (mOp [.pk 0, .val (mCon (.int 2))] ixD), .bor 1]))
  (mSeq (mIfS (mAnd (mTru (.pk 1)) (mB (mOp [.val (mOp [.val (mOp [.val (mPop 1)] intD), .val (mCon (.int 2))] modD), .val (mCon (.int 1))] (eqD false))))
  (mRet (mTup [.val (mOp [.pk 0, .val (mCon (.int 0))] ixD), .val (mVar 3), .val (mVar 2)]))
  (mNext))
  (mRet (mTup [.val (mOp [.pk 0, .val (mCon (.int 0))] ixD), .val (mVar 2), .val (mVar 3)]))))))
def r__law_exchanged : Nat → List Sl → RS Sl
  | 0 => fun _ => .bad
  | n + 1 => fnRun 4 [1] (b__law_exchanged (r__law_exchanged n))
/-! ### _law_comb: 0 numbers, 1 names, 2 tree, 3 number, 4 leaf -/
abbrev s__law_comb : Stmt := top 27
theorem sc__law_comb : FnScope ["numbers", "names", "tree", "number", "leaf"] ["numbers", "names"] (defScope s__law_comb) := ⟨rfl, rfl, rfl, by decide +kernel, rfl, by decide +kernel, by decide +kernel⟩
def l0__law_comb : En → Out := mSeq (mAsg 4 (mOp [.val (mOp [.pk 1, .val (mLst [.val (mCon (.str "1")), .val (mCon (.str "?"))])] addD), .val (mOp [.val (mOp [.val (mOp [.pk 3, .val (mCon (.int 12))] fdivD)] intD), .val (mOp [.val (mOp [.pk 1] lenD), .val (mCon (.int 2))] addD)] modD)] ixD))
  (mSeq (mAsg 2 (mTup [.val (mOp [.val (mCon (.str "&^|")), .val (mOp [.val (mOp [.pk 3] intD), .val (mCon (.int 3))] modD)] ixD), .val (mVar 4), .val (mVar 2)]))
  (mIfS (mB (mOp [.val (mOp [.val (mOp [.val (mOp [.pk 3, .val (mCon (.int 3))] fdivD)] intD), .val (mCon (.int 4))] modD), .val (mCon (.int 0))] (eqD false)))
  (mAsg 2 (mTup [.val (mCon (.str "!")), .val (mVar 2)]))
  (mNext)))
def b__law_comb : En → Out := mSeq (mAsg 2 (mOp [.pk 1, .val (mCon (.int 0))] ixD))
  (mSeq (mFor (mSrc [.pk 0] srcF) (tgN 3) (l0__law_comb))
  (mRet (mMov 2)))
def r__law_comb : List Sl → RS Sl := fnRun 5 [] b__law_comb
/-! ### _law_full: 0 depth, 1 number, 2 names, 3 tree, 4 k -/
abbrev s__law_full : Stmt := top 28
theorem sc__law_full : FnScope ["depth", "number", "names", "tree", "k"] ["depth", "number", "names"] (defScope s__law_full) := ⟨rfl, rfl, rfl, by decide +kernel, rfl, by decide +kernel, by decide +kernel⟩
def l0__law_full : En → Out := mAsg 3 (mTup [.val (mOp [.val (mCon (.str "&^|")), .val (mOp [.val (mOp [.val (mOp [.pk 1, .val (mOp [.val (mCon (.int 1)), .pk 4] addD)] fdivD)] intD), .val (mCon (.int 3))] modD)] ixD), .val (mVar 3), .val (mVar 3)])
def b__law_full : En → Out := mSeq (mAsg 3 (mOp [.pk 2, .val (mOp [.val (mOp [.pk 1] intD), .val (mOp [.pk 2] lenD)] modD)] ixD))
  (mSeq (mFor (mSrc [.pk 0] rng1) (tgN 4) (l0__law_full))
  (mRet (mMov 3)))
def r__law_full : List Sl → RS Sl := fnRun 5 [] b__law_full
/-! ### _law_depth_right: 0 tree, 1 due, 2 told -/
abbrev s__law_depth_right : Stmt := top 29
theorem sc__law_depth_right : FnScope ["tree", "due", "told"] ["tree", "due"] (defScope s__law_depth_right) := ⟨rfl, rfl, rfl, by decide +kernel, rfl, by decide +kernel, by decide +kernel⟩
def b__law_depth_right : En → Out := mSeq (mAsg 2 (mCall r_depth_of [.val (mOp [.val (mCall r_postfix [.pk 0]), .val (mLst [.val (mTup [.val (mCon (.str "next")), .val (mCon (.str "p"))])])] addD)]))
  (mRet (mAndV (mOp [.pk 2] (isiD "int")) (mAndV (mNotV (mOp [.pk 2] (isiD "bool"))) (mOp [.pk 2, .pk 1] (eqD false)))))
def r__law_depth_right : List Sl → RS Sl := fnRun 3 [] b__law_depth_right
/-! ### _law_tree_right: 0 tree, 1 names, 2 numbers, 3 due, 4 least, 5 k, 6 bits, 7 other, 8 signs, 9 name, 10 number -/
abbrev s__law_tree_right : Stmt := top 30
theorem sc__law_tree_right : FnScope ["tree", "names", "numbers", "due", "least", "k", "bits", "other", "signs", "name", "number"] ["tree", "names", "numbers"] (defScope s__law_tree_right) := ⟨rfl, rfl, rfl, by decide +kernel, rfl, by decide +kernel, by decide +kernel⟩
def e0__law_tree_right : En → RS Sl := mOp [.pk 10, .val (mOp [.val (mCon (.int 1)), .pk 5] addD)] fdivD
def l0__law_tree_right : En → Out := mSeq (mAsg 6 (mLc (mSrc [.pk 2] srcF) (tgN 10) (mYes) (e0__law_tree_right) [10]))
  (mSeq (mAsg 7 (mCall (r__law_exchanged 90) [.pk 0, .bor 6]))
  (mSeq (mIfS (mOr (mB (mOp [.val (mCall (r__law_stack_need 90) [.val (mVar 7)]), .pk 4] ltD)) (mNot (mB (mCall r__law_depth_right [.val (mVar 7), .val (mCall (r__law_stack_need 90) [.val (mVar 7)])]))))
  (mRet (mCon (.bl false)))
  (mNext))
  (mIfS (mNot (mB (mCall r__law_depth_right [.val (mCall r_shallow [.val (mVar 7)]), .val (mVar 4)])))
  (mRet (mCon (.bl false)))
  (mNext))))
def l1__law_tree_right : En → Out := mSetI 8 (.val (mOp [.val (mCon (.str "01x")), .val (mOp [.val (mOp [.val (mOp [.pk 2, .pk 5] ixD)] intD), .val (mCon (.int 3))] modD)] ixD)) (.pk 9)
def b__law_tree_right : En → Out := mSeq (mAsg 3 (mCall (r__law_shallow 90) [.pk 0]))
  (mSeq (mAsg 4 (mCall (r__law_least_need 90) [.pk 0]))
  (mSeq (mIfS (mOr (mB (mOp [.val (mCall r_shallow [.pk 0]), .pk 3] (eqD true))) (mOr (mB (mOp [.val (mCall r_shallow [.val (mVar 3)]), .pk 3] (eqD true))) (mNot (mB (mCall r__law_depth_right [.pk 0, .val (mCall (r__law_stack_need 90) [.pk 0])])))))
  (mRet (mCon (.bl false)))
  (mNext))
  (mSeq (mIfS (mNot (mB (mCall r__law_depth_right [.val (mVar 3), .val (mVar 4)])))
  (mRet (mCon (.bl false)))
  (mNext))
  (mSeq (mFor (mSrc [.val (mCon (.int 2))] rng1) (tgN 5) (l0__law_tree_right))
  (mSeq (mAsg 8 (mDnew))
  (mSeq (mFor (mSrc [.pk 1] enmF) (tgT [5, 9]) (l1__law_tree_right))
  (mRet (mOp [.val (mCall (r_value_of 90) [.val (mCall r_shallow [.pk 0]), .pk 8]), .val (mCall (r_value_of 90) [.pk 0, .pk 8])] (eqD false)))))))))
def r__law_tree_right : List Sl → RS Sl := fnRun 11 [] b__law_tree_right
/-! ### law: 0 script, 1 plan, 2 names, 3 size, 4 bits, 5 drawn, 6 comb, 7 full, 8 both, 9 tree -/
abbrev s_law : Stmt := top 31
theorem sc_law : FnScope ["script", "plan", "names", "size", "bits", "drawn", "comb", "full", "both", "tree"] ["script"] (defScope s_law) := ⟨rfl, rfl, rfl, by decide +kernel, rfl, by decide +kernel, by decide +kernel⟩
def l0_law : En → Out := mIfS (mNot (mB (mCall r__law_tree_right [.val (mVar 9), .val (mVar 2), .val (mVar 4)])))
  (mRet (mCon (.bl false)))
  (mNext)
def b_law : En → Out := mSeq (mAsg 1 (mCall r__law_numbers [.val (mCall r__law_cell [.pk 0, .val (mCon (.int 0))]), .val (mCon (.int 5040)), .val (mCon (.int 8))]))
  (mSeq (mAsg 2 (mCall r__law_names [.val (mCall r__law_cell [.pk 0, .val (mCon (.int 1))]), .val (mOp [.val (mCon (.int 1)), .val (mOp [.val (mOp [.val (mOp [.pk 1, .val (mCon (.int 0))] ixD)] intD), .val (mCon (.int 6))] modD)] addD)]))
  (mSeq (mAsg 3 (mOp [.val (mCon (.int 1)), .val (mOp [.val (mOp [.val (mOp [.pk 1, .val (mCon (.int 1))] ixD)] intD), .val (mCon (.int 20))] modD)] addD))
  (mSeq (mIfS (mB (mOp [.val (mOp [.val (mOp [.val (mOp [.pk 1, .val (mCon (.int 2))] ixD)] intD), .val (mCon (.int 8))] modD), .val (mCon (.int 0))] (eqD false)))
  (mAsg 3 (mCon (.int 80)))
  (mNext))
  (mSeq (mAsg 4 (mCall r__law_numbers [.val (mCall r__law_cell [.pk 0, .val (mCon (.int 4))]), .val (mCon (.int 5040)), .val (mCon (.int 60))]))
  (mSeq (mAsg 5 (mCall r__law_tree [.val (mCall r__law_numbers [.val (mCall r__law_cell [.pk 0, .val (mCon (.int 2))]), .val (mCon (.int 5040)), .val (mVar 3)]), .val (mVar 2)]))
  (mSeq (mAsg 6 (mCall r__law_comb [.val (mCall r__law_numbers [.val (mCall r__law_cell [.pk 0, .val (mCon (.int 3))]), .val (mCon (.int 5040)), .val (mOp [.val (mOp [.val (mOp [.pk 1, .val (mCon (.int 3))] ixD)] intD), .val (mCon (.int 31))] modD)]), .val (mVar 2)]))
  (mSeq (mAsg 7 (mCall r__law_full [.val (mOp [.val (mOp [.val (mOp [.pk 1, .val (mCon (.int 4))] ixD)] intD), .val (mCon (.int 6))] modD), .val (mOp [.pk 1, .val (mCon (.int 5))] ixD), .val (mVar 2)]))
  (mSeq (mAsg 8 (mLst [.val (mOp [.val (mCon (.str "&^|")), .val (mOp [.val (mOp [.val (mOp [.pk 1, .val (mCon (.int 6))] ixD)] intD), .val (mCon (.int 3))] modD)] ixD), .val (mVar 7), .val (mVar 6)]))
  (mSeq (mIfS (mB (mOp [.val (mOp [.val (mOp [.val (mOp [.pk 1, .val (mCon (.int 7))] ixD)] intD), .val (mCon (.int 2))] modD), .val (mCon (.int 0))] (eqD false)))
  (mAsg 8 (mLst [.val (mOp [.pk 8, .val (mCon (.int 0))] ixD), .val (mVar 6), .val (mVar 7)]))
  (mNext))
  (mSeq (mFor (mSrc [.val (mLst [.val (mVar 5), .val (mVar 6), .val (mOp [.val (mVar 8)] tupleD)])] srcF) (tgN 9) (l0_law))
  (mRet (mAndV (mOp [.val (mCall r_shallow [.val (mCon (.str "?"))]), .val (mCon (.str "?"))] (eqD false)) (mOp [.val (mCall r_shallow [.val (mTup [.val (mCon (.str "!")), .val (mOp [.pk 2, .val (mCon (.int 0))] ixD)])]), .val (mTup [.val (mCon (.str "!")), .val (mOp [.pk 2, .val (mCon (.int 0))] ixD)])] (eqD false))))))))))))))
def r_law : List Sl → RS Sl := fnRun 10 [] b_law
end
end K83

set_option Elab.async false
set_option linter.all false
set_option maxRecDepth 100000
set_option maxHeartbeats 4000000
namespace K83
open PySem PySem.Spec PyProof.Rows L2 M
section
variable {P : Program} {w : World} {K : PySem.W.Frag} {mg : Str → Option Value} {base : Heap} {ca : Str → Addr}
theorem h_value_of (st : Stands K mg "value_of" ["tree", "signs"] s_value_of) (z_isinstance : mg "isinstance" = none) (z_str : mg "str" = none) {a_NOT : Addr} (m_NOT : mg "NOT" = some (.ref a_NOT)) (t_NOT : KTab K w a_NOT tb_NOT) {a_AND : Addr} (m_AND : mg "AND" = some (.ref a_AND)) (t_AND : KTab K w a_AND tb_AND) {a_OR : Addr} (m_OR : mg "OR" = some (.ref a_OR)) (t_OR : KTab K w a_OR tb_OR) {a_XOR : Addr} (m_XOR : mg "XOR" = some (.ref a_XOR)) (t_XOR : KTab K w a_XOR tb_XOR) : ∀ n : Nat, Has P w K mg base ca "value_of" ["tree", "signs"] (n + 0) (r_value_of n)
  | 0 => has_bad st
  | n + 1 => by
    have h_value_of := h_value_of st z_isinstance z_str m_NOT t_NOT m_AND t_AND m_OR t_OR m_XOR t_XOR n
    exact Has.mono (has_mk (N := ["tree", "signs", "left", "pair"]) (ps := ["tree", "signs"]) (k := n + 0) (bs := []) (ms := b_value_of (r_value_of n)) st sc_value_of (fun f cdv A outer s H E C hr hK hca hb hu => (gs_cons (gs_if (gt_val (g_isi (T := "str") (Ts := "str") hK rfl z_isinstance rfl z_str rfl (g_pk (pv 0))))
  (gs_cons (gs_if (gt_bool (gw_or (gt_cmp (op_eqS hK hu) (g_pk (pv 0)) (g_val g_str) (by rfl)) (gw_or1 (gt_cmp (op_eqS hK hu) (g_pk (pv 0)) (g_val g_str) (by rfl)))))
  (gs_one (gs_ret (g_mov (pv 0))))
  gs_nil)
  (gs_cons (gs_if (gt_cmp (op_eqS hK hu) (g_pk (pv 0)) (g_val g_str) (by rfl))
  (gs_one (gs_ret g_str))
  gs_nil)
  (gs_one (gs_ret (g_idxS hK hu (g_pk (pv 1)) (g_pk (pv 0)) (fun _ _ => rfl) (fun _ _ => rfl))))))
  gs_nil)
  (gs_cons (gs_asg (i := 2) (bs := []) hb (by rfl) sc_value_of.nd rfl (by first | exact .inl rfl | exact .inr rfl) (gg_call hK hca h_value_of hr (by omega) rfl (takes_of rfl rfl rfl rfl) (ga_cons (g_val (g_idxS hK hu (g_pk (pv 0)) (g_val g_int) (fun _ _ => rfl) (fun _ _ => rfl))) (ga_cons (g_pk (pv 1)) ga_nil)) rfl rfl) (by rfl))
  (gs_cons (gs_if (gt_cmp (op_eqS hK hu) (g_val (g_idxS hK hu (g_pk (pv 0)) (g_val g_int) (fun _ _ => rfl) (fun _ _ => rfl))) (g_val g_str) (by rfl))
  (gs_one (gs_ret (g_gd hK rfl m_NOT t_NOT (g_pk (pv 2)) (fun _ _ => rfl))))
  gs_nil)
  (gs_cons (gs_asg (i := 3) (bs := []) hb (by rfl) sc_value_of.nd rfl (by first | exact .inl rfl | exact .inr rfl) (g_bin op_addM (g_pk (pv 2)) (g_val (gg_call hK hca h_value_of hr (by omega) rfl (takes_of rfl rfl rfl rfl) (ga_cons (g_val (g_idxS hK hu (g_pk (pv 0)) (g_val g_int) (fun _ _ => rfl) (fun _ _ => rfl))) (ga_cons (g_pk (pv 1)) ga_nil)) rfl rfl))) (by rfl))
  (gs_cons (gs_if (gt_cmp (op_eqS hK hu) (g_val (g_idxS hK hu (g_pk (pv 0)) (g_val g_int) (fun _ _ => rfl) (fun _ _ => rfl))) (g_val g_str) (by rfl))
  (gs_one (gs_ret (g_gd hK rfl m_AND t_AND (g_pk (pv 3)) (fun _ _ => rfl))))
  gs_nil)
  (gs_cons (gs_if (gt_cmp (op_eqS hK hu) (g_val (g_idxS hK hu (g_pk (pv 0)) (g_val g_int) (fun _ _ => rfl) (fun _ _ => rfl))) (g_val g_str) (by rfl))
  (gs_one (gs_ret (g_gd hK rfl m_OR t_OR (g_pk (pv 3)) (fun _ _ => rfl))))
  gs_nil)
  (gs_one (gs_ret (g_gd hK rfl m_XOR t_XOR (g_pk (pv 3)) (fun _ _ => rfl)))))))))))) (by omega)
theorem h_is_ready (st : Stands K mg "is_ready" ["word", "size"] s_is_ready)  : Has P w K mg base ca "is_ready" ["word", "size"] 1 r_is_ready :=
  has_mk (N := ["word", "size"]) (ps := ["word", "size"]) (k := 0) (bs := []) (ms := b_is_ready) st sc_is_ready (fun f cdv A outer s H E C hr hK hca hb hu => (gs_cons (gs_if (gt_bool (gw_or (gt_cmp (op_eqS hK hu) (g_pk (pv 0)) (g_val g_str) (by rfl)) (gw_or1 (gt_cmp (op_eqS hK hu) (g_pk (pv 0)) (g_val g_str) (by rfl)))))
  (gs_one (gs_ret (g_cmp (op_eqS hK hu) (g_pk (pv 1)) (g_val g_int) (by rfl))))
  gs_nil)
  (gs_cons (gs_if (gt_cmp (op_eqS hK hu) (g_pk (pv 0)) (g_val g_str) (by rfl))
  (gs_one (gs_ret (g_cmp op_geM (g_pk (pv 1)) (g_val g_int) (by rfl))))
  gs_nil)
  (gs_one (gs_ret (g_or (g_cmp op_geM (g_pk (pv 1)) (g_val g_int) (by rfl)) (g_or (g_cmp (op_eqS hK hu) (g_pk (pv 0)) (g_val g_str) (by rfl)) (g_one (g_cmp (op_eqS hK hu) (g_pk (pv 0)) (g_val g_str) (by rfl))))))))))
theorem h__append_code (st : Stands K mg "_append_code" ["tree", "code"] s__append_code) (z_isinstance : mg "isinstance" = none) (z_str : mg "str" = none) {a_WORDS : Addr} (m_WORDS : mg "WORDS" = some (.ref a_WORDS)) (t_WORDS : KTab K w a_WORDS tb_WORDS) : ∀ n : Nat, Has P w K mg base ca "_append_code" ["tree", "code"] (n + 0) (r__append_code n)
  | 0 => has_bad st
  | n + 1 => by
    have h__append_code := h__append_code st z_isinstance z_str m_WORDS t_WORDS n
    exact Has.mono (has_mk (N := ["tree", "code"]) (ps := ["tree", "code"]) (k := n + 0) (bs := [1]) (ms := b__append_code (r__append_code n)) st sc__append_code (fun f cdv A outer s H E C hr hK hca hb hu => (gs_cons (gs_if (gt_val (g_isi (T := "str") (Ts := "str") hK rfl z_isinstance rfl z_str rfl (g_pk (pv 0))))
  (gs_cons (gs_if (gt_cmp (op_eqS hK hu) (g_pk (pv 0)) (g_val g_str) (by rfl))
  (gs_one (gs_append (pv 1) (g_val (g_tup (ga_cons (g_val g_str) (ga_cons (g_val g_str) ga_nil)))) rfl rfl rfl))
  (gs_one (gs_if (gt_bool (gw_or (gt_cmp (op_eqS hK hu) (g_pk (pv 0)) (g_val g_str) (by rfl)) (gw_or1 (gt_cmp (op_eqS hK hu) (g_pk (pv 0)) (g_val g_str) (by rfl)))))
  (gs_one (gs_append (pv 1) (g_val (g_tup (ga_cons (g_val g_str) (ga_cons (g_pk (pv 0)) ga_nil)))) rfl rfl rfl))
  (gs_one (gs_append (pv 1) (g_val (g_tup (ga_cons (g_val g_str) (ga_cons (g_pk (pv 0)) ga_nil)))) rfl rfl rfl)))))
  (gs_one gs_retN))
  gs_nil)
  (gs_cons (gs_drop (gg_call hK hca h__append_code hr (by omega) rfl (takes_of rfl rfl rfl rfl) (ga_cons (g_val (g_idxS hK hu (g_pk (pv 0)) (g_val g_int) (fun _ _ => rfl) (fun _ _ => rfl))) (ga_cons (pv 1) ga_nil)) rfl rfl) (by rfl))
  (gs_one (gs_if (gt_cmp (op_eqS hK hu) (g_val (g_idxS hK hu (g_pk (pv 0)) (g_val g_int) (fun _ _ => rfl) (fun _ _ => rfl))) (g_val g_str) (by rfl))
  (gs_one (gs_append (pv 1) (g_val (g_tup (ga_cons (g_val g_str) ga_nil))) rfl rfl rfl))
  (gs_cons (gs_drop (gg_call hK hca h__append_code hr (by omega) rfl (takes_of rfl rfl rfl rfl) (ga_cons (g_val (g_idxS hK hu (g_pk (pv 0)) (g_val g_int) (fun _ _ => rfl) (fun _ _ => rfl))) (ga_cons (pv 1) ga_nil)) rfl rfl) (by rfl))
  (gs_one (gs_append (pv 1) (g_val (g_tup (ga_cons (g_val (g_gd hK rfl m_WORDS t_WORDS (g_val (g_idxS hK hu (g_pk (pv 0)) (g_val g_int) (fun _ _ => rfl) (fun _ _ => rfl))) (fun _ _ => rfl))) ga_nil))) rfl rfl rfl))))))))) (by omega)
theorem h_postfix (st : Stands K mg "postfix" ["tree"] s_postfix) (h__append_code : Has P w K mg base ca "_append_code" ["tree", "code"] 90 (r__append_code 90)) : Has P w K mg base ca "postfix" ["tree"] 91 r_postfix :=
  has_mk (N := ["tree", "code"]) (ps := ["tree"]) (k := 90) (bs := []) (ms := b_postfix) st sc_postfix (fun f cdv A outer s H E C hr hK hca hb hu => (gs_cons (gs_asg (i := 1) (bs := []) hb (by rfl) sc_postfix.nd rfl (by first | exact .inl rfl | exact .inr rfl) (g_lst ga_nil) (by rfl))
  (gs_cons (gs_drop (gg_call hK hca h__append_code hr (by omega) rfl (takes_of rfl rfl rfl rfl) (ga_cons (g_pk (pv 0)) (ga_cons (pv 1) ga_nil)) rfl rfl) (by rfl))
  (gs_one (gs_ret (g_mov (pv 1)))))))
theorem h_depth_of (st : Stands K mg "depth_of" ["code"] s_depth_of) (z_enumerate : mg "enumerate" = none) (h_is_ready : Has P w K mg base ca "is_ready" ["word", "size"] 1 r_is_ready) {a_GROWTH : Addr} (m_GROWTH : mg "GROWTH" = some (.ref a_GROWTH)) (t_GROWTH : KTab K w a_GROWTH tb_GROWTH) (z_max : mg "max" = none) : Has P w K mg base ca "depth_of" ["code"] 2 r_depth_of :=
  has_mk (N := ["code", "depth", "size", "at", "instruction"]) (ps := ["code"]) (k := 1) (bs := []) (ms := b_depth_of) st sc_depth_of (fun f cdv A outer s H E C hr hK hca hb hu => (gs_cons (gs_asg (i := 1) (bs := []) hb (by rfl) sc_depth_of.nd rfl (by first | exact .inl rfl | exact .inr rfl) g_int (by rfl))
  (gs_cons (gs_asg (i := 2) (bs := []) hb (by rfl) sc_depth_of.nd rfl (by first | exact .inl rfl | exact .inr rfl) g_int (by rfl))
  (gs_cons (gs_for (passes_of rfl) rfl (gi_enum hK rfl z_enumerate (ga_cons (g_pk (pv 0)) ga_nil) rfl) (pg_tup rfl (pgs_cons (pg_name (i := 3) sc_depth_of.nd rfl (by first | exact .inl rfl | exact .inr rfl)) (pgs_cons (pg_name (i := 4) sc_depth_of.nd rfl (by first | exact .inl rfl | exact .inr rfl)) pgs_nil))) (tgT_okK (is := [3, 4]) (bs := []) hK hb (by rfl)) (gs_cons (gs_if (gt_not (gt_val (gg_call hK hca h_is_ready hr (by omega) rfl (takes_of rfl rfl rfl rfl) (ga_cons (g_val (g_idxS hK hu (g_pk (pv 4)) (g_val g_int) (fun _ _ => rfl) (fun _ _ => rfl))) (ga_cons (g_val (g_var (pv 2))) ga_nil)) rfl rfl)))
  (gs_one gs_never)
  gs_nil)
  (gs_cons (gs_aug (i := 2) (bs := []) ip_add hb (by rfl) sc_depth_of.nd rfl (by first | exact .inl rfl | exact .inr rfl) (g_gd hK rfl m_GROWTH t_GROWTH (g_val (g_idxS hK hu (g_pk (pv 4)) (g_val g_int) (fun _ _ => rfl) (fun _ _ => rfl))) (fun _ _ => rfl)))
  (gs_one (gs_asg (i := 1) (bs := []) hb (by rfl) sc_depth_of.nd rfl (by first | exact .inl rfl | exact .inr rfl) (g_callB (call_maxM rfl) rfl z_max (by decide +kernel) (ga_cons (g_pk (pv 1)) (ga_cons (g_pk (pv 2)) ga_nil))) (by rfl))))) (fun _ => rfl))
  (gs_cons (gs_if (gt_cmp op_gtM (g_pk (pv 2)) (g_val g_int) (by rfl))
  (gs_one gs_never)
  gs_nil)
  (gs_one (gs_ret (g_mov (pv 1)))))))))
theorem h__shallow (st : Stands K mg "_shallow" ["tree"] s__shallow) (z_isinstance : mg "isinstance" = none) (z_str : mg "str" = none) (z_max : mg "max" = none) : ∀ n : Nat, Has P w K mg base ca "_shallow" ["tree"] (n + 0) (r__shallow n)
  | 0 => has_bad st
  | n + 1 => by
    have h__shallow := h__shallow st z_isinstance z_str z_max n
    exact Has.mono (has_mk (N := ["tree", "left", "need", "right", "other"]) (ps := ["tree"]) (k := n + 0) (bs := []) (ms := b__shallow (r__shallow n)) st sc__shallow (fun f cdv A outer s H E C hr hK hca hb hu => (gs_cons (gs_if (gt_val (g_isi (T := "str") (Ts := "str") hK rfl z_isinstance rfl z_str rfl (g_pk (pv 0))))
  (gs_one (gs_ret (g_tup (ga_cons (g_pk (pv 0)) (ga_cons (g_val g_int) ga_nil)))))
  gs_nil)
  (gs_cons (gs_unp (is := [1, 2]) (bs := []) hK hb (by rfl) (pg_tup rfl (pgs_cons (pg_name (i := 1) sc__shallow.nd rfl (by first | exact .inl rfl | exact .inr rfl)) (pgs_cons (pg_name (i := 2) sc__shallow.nd rfl (by first | exact .inl rfl | exact .inr rfl)) pgs_nil))) (gg_call hK hca h__shallow hr (by omega) rfl (takes_of rfl rfl rfl rfl) (ga_cons (g_val (g_idxS hK hu (g_pk (pv 0)) (g_val g_int) (fun _ _ => rfl) (fun _ _ => rfl))) ga_nil) rfl rfl) (by rfl) (by rfl))
  (gs_cons (gs_if (gt_cmp (op_eqS hK hu) (g_val (g_idxS hK hu (g_pk (pv 0)) (g_val g_int) (fun _ _ => rfl) (fun _ _ => rfl))) (g_val g_str) (by rfl))
  (gs_one (gs_ret (g_tup (ga_cons (g_val (g_tup (ga_cons (g_val g_str) (ga_cons (g_val (g_var (pv 1))) ga_nil)))) (ga_cons (g_val (g_var (pv 2))) ga_nil)))))
  gs_nil)
  (gs_cons (gs_unp (is := [3, 4]) (bs := []) hK hb (by rfl) (pg_tup rfl (pgs_cons (pg_name (i := 3) sc__shallow.nd rfl (by first | exact .inl rfl | exact .inr rfl)) (pgs_cons (pg_name (i := 4) sc__shallow.nd rfl (by first | exact .inl rfl | exact .inr rfl)) pgs_nil))) (gg_call hK hca h__shallow hr (by omega) rfl (takes_of rfl rfl rfl rfl) (ga_cons (g_val (g_idxS hK hu (g_pk (pv 0)) (g_val g_int) (fun _ _ => rfl) (fun _ _ => rfl))) ga_nil) rfl rfl) (by rfl) (by rfl))
  (gs_cons (gs_if (gt_cmp op_gtM (g_pk (pv 4)) (g_pk (pv 2)) (by rfl))
  (gs_one (gs_ret (g_tup (ga_cons (g_val (g_tup (ga_cons (g_val (g_idxS hK hu (g_pk (pv 0)) (g_val g_int) (fun _ _ => rfl) (fun _ _ => rfl))) (ga_cons (g_val (g_var (pv 3))) (ga_cons (g_val (g_var (pv 1))) ga_nil))))) (ga_cons (g_val (g_var (pv 4))) ga_nil)))))
  gs_nil)
  (gs_one (gs_ret (g_tup (ga_cons (g_val (g_tup (ga_cons (g_val (g_idxS hK hu (g_pk (pv 0)) (g_val g_int) (fun _ _ => rfl) (fun _ _ => rfl))) (ga_cons (g_val (g_var (pv 1))) (ga_cons (g_val (g_var (pv 3))) ga_nil))))) (ga_cons (g_val (g_callB (call_maxM rfl) rfl z_max (by decide +kernel) (ga_cons (g_pk (pv 2)) (ga_cons (g_val (g_bin op_addM (g_pk (pv 4)) (g_val g_int))) ga_nil)))) ga_nil)))))))))))) (by omega)
theorem h_shallow (st : Stands K mg "shallow" ["tree"] s_shallow) (h__shallow : Has P w K mg base ca "_shallow" ["tree"] 90 (r__shallow 90)) : Has P w K mg base ca "shallow" ["tree"] 91 r_shallow :=
  has_mk (N := ["tree"]) (ps := ["tree"]) (k := 90) (bs := []) (ms := b_shallow) st sc_shallow (fun f cdv A outer s H E C hr hK hca hb hu => (gs_one (gs_ret (g_idxS hK hu (g_val (gg_call hK hca h__shallow hr (by omega) rfl (takes_of rfl rfl rfl rfl) (ga_cons (g_pk (pv 0)) ga_nil) rfl rfl)) (g_val g_int) (fun _ _ => rfl) (fun _ _ => rfl)))))
theorem h__law_cell (st : Stands K mg "_law_cell" ["script", "k"] s__law_cell) (z_len : mg "len" = none) : Has P w K mg base ca "_law_cell" ["script", "k"] 1 r__law_cell :=
  has_mk (N := ["script", "k"]) (ps := ["script", "k"]) (k := 0) (bs := []) (ms := b__law_cell) st sc__law_cell (fun f cdv A outer s H E C hr hK hca hb hu => (gs_cons (gs_if (gt_cmp op_ltM (g_pk (pv 1)) (g_val (g_callB (call_lenM hK) rfl z_len (by decide +kernel) (ga_cons (g_pk (pv 0)) ga_nil))) (by rfl))
  (gs_one (gs_ret (g_idxS hK hu (g_pk (pv 0)) (g_pk (pv 1)) (fun _ _ => rfl) (fun _ _ => rfl))))
  gs_nil)
  (gs_one (gs_ret g_int))))
theorem h__law_numbers (st : Stands K mg "_law_numbers" ["cell", "base", "count"] s__law_numbers) (z_int : mg "int" = none) (z_range : mg "range" = none) : Has P w K mg base ca "_law_numbers" ["cell", "base", "count"] 1 r__law_numbers :=
  has_mk (N := ["cell", "base", "count", "numbers", "rest", "mixed", "k"]) (ps := ["cell", "base", "count"]) (k := 0) (bs := []) (ms := b__law_numbers) st sc__law_numbers (fun f cdv A outer s H E C hr hK hca hb hu => (gs_cons (gs_asg (i := 3) (bs := []) hb (by rfl) sc__law_numbers.nd rfl (by first | exact .inl rfl | exact .inr rfl) (g_lst ga_nil) (by rfl))
  (gs_cons (gs_asg (i := 4) (bs := []) hb (by rfl) sc__law_numbers.nd rfl (by first | exact .inl rfl | exact .inr rfl) (g_var (pv 0)) (by rfl))
  (gs_cons (gs_asg (i := 5) (bs := []) hb (by rfl) sc__law_numbers.nd rfl (by first | exact .inl rfl | exact .inr rfl) (g_bin op_modM (g_val (g_callTy call_intM rfl z_int (by decide +kernel) (ga_cons (g_val (g_bin op_addM (g_val (g_bin op_mulM (g_pk (pv 0)) (g_val g_int))) (g_val g_int))) ga_nil))) (g_val g_int)) (by rfl))
  (gs_cons (gs_for (passes_of rfl) rfl (gi_range1 rfl z_range (ga_cons (g_pk (pv 2)) ga_nil) rfl) (pg_name (i := 6) sc__law_numbers.nd rfl (by first | exact .inl rfl | exact .inr rfl)) (tgN_ok (bs := []) hb (by rfl)) (gs_cons (gs_asg (i := 5) (bs := []) hb (by rfl) sc__law_numbers.nd rfl (by first | exact .inl rfl | exact .inr rfl) (g_bin op_modM (g_val (g_callTy call_intM rfl z_int (by decide +kernel) (ga_cons (g_val (g_bin op_addM (g_val (g_bin op_addM (g_val (g_bin op_mulM (g_pk (pv 5)) (g_val g_int))) (g_pk (pv 6)))) (g_val g_int))) ga_nil))) (g_val g_int)) (by rfl))
  (gs_one (gs_if (gt_bool (gw_and (gt_cmp op_geM (g_pk (pv 0)) (g_val (g_bin op_powM (g_val g_int) (g_val g_int))) (by rfl)) (gw_and1 (gt_cmp op_gtM (g_pk (pv 4)) (g_val g_int) (by rfl)))))
  (gs_cons (gs_append (pv 3) (g_val (g_bin op_modM (g_val (g_callTy call_intM rfl z_int (by decide +kernel) (ga_cons (g_pk (pv 4)) ga_nil))) (g_pk (pv 1)))) rfl rfl rfl)
  (gs_one (gs_asg (i := 4) (bs := []) hb (by rfl) sc__law_numbers.nd rfl (by first | exact .inl rfl | exact .inr rfl) (g_bin op_fdivM (g_pk (pv 4)) (g_pk (pv 1))) (by rfl))))
  (gs_one (gs_append (pv 3) (g_val (g_bin op_modM (g_val (g_bin op_fdivM (g_pk (pv 5)) (g_val g_int))) (g_pk (pv 1)))) rfl rfl rfl))))) (fun _ => rfl))
  (gs_one (gs_ret (g_mov (pv 3)))))))))
theorem h__law_names (st : Stands K mg "_law_names" ["cell", "count"] s__law_names) (h__law_numbers : Has P w K mg base ca "_law_numbers" ["cell", "base", "count"] 1 r__law_numbers) (z_range : mg "range" = none) (z_int : mg "int" = none) : Has P w K mg base ca "_law_names" ["cell", "count"] 2 r__law_names :=
  has_mk (N := ["cell", "count", "letters", "numbers", "names", "k", "row", "rest", "number"]) (ps := ["cell", "count"]) (k := 1) (bs := []) (ms := b__law_names) st sc__law_names (fun f cdv A outer s H E C hr hK hca hb hu => (gs_cons (gs_asg (i := 2) (bs := []) hb (by rfl) sc__law_names.nd rfl (by first | exact .inl rfl | exact .inr rfl) g_str (by rfl))
  (gs_cons (gs_asg (i := 3) (bs := []) hb (by rfl) sc__law_names.nd rfl (by first | exact .inl rfl | exact .inr rfl) (gg_call hK hca h__law_numbers hr (by omega) rfl (takes_of rfl rfl rfl rfl) (ga_cons (g_pk (pv 0)) (ga_cons (g_val g_int) (ga_cons (g_val (g_bin op_addM (g_val (g_bin op_mulM (g_val g_int) (g_pk (pv 1)))) (g_val g_int))) ga_nil))) rfl rfl) (by rfl))
  (gs_cons (gs_asg (i := 4) (bs := []) hb (by rfl) sc__law_names.nd rfl (by first | exact .inl rfl | exact .inr rfl) (g_lst ga_nil) (by rfl))
  (gs_cons (gs_for (passes_of rfl) rfl (gi_range1 rfl z_range (ga_cons (g_pk (pv 1)) ga_nil) rfl) (pg_name (i := 5) sc__law_names.nd rfl (by first | exact .inl rfl | exact .inr rfl)) (tgN_ok (bs := []) hb (by rfl)) (gs_cons (gs_asg (i := 6) (bs := []) hb (by rfl) sc__law_names.nd rfl (by first | exact .inl rfl | exact .inr rfl) (g_sl11 hK (g_pk (pv 3)) (g_bin op_addM (g_val (g_bin op_mulM (g_val g_int) (g_pk (pv 5)))) (g_val g_int)) (g_bin op_addM (g_val (g_bin op_mulM (g_val g_int) (g_pk (pv 5)))) (g_val g_int))) (by rfl))
  (gs_cons (gs_asg (i := 7) (bs := []) hb (by rfl) sc__law_names.nd rfl (by first | exact .inl rfl | exact .inr rfl) (g_join hK pe_str (g_val (g_lc (own := [("number", 8)]) hK rfl sc__law_names.nd hb (by rfl) (by rfl) (tgN_ok (bs := []) hb (by rfl)) ttYes (gi_any hK (g_val (g_sl11 hK (g_pk (pv 6)) g_int (g_bin op_addM (g_val g_int) (g_val (g_bin op_modM (g_val (g_callTy call_intM rfl z_int (by decide +kernel) (ga_cons (g_val (g_idxS hK hu (g_pk (pv 6)) (g_val g_int) (fun _ _ => rfl) (fun _ _ => rfl))) ga_nil))) (g_val g_int))))))) (blkOk_by (by rfl)) (fun _ _ _ _ _ => (pg_name (i := 8) sc__law_names.nd rfl (by first | exact .inl rfl | exact .inr rfl))) (fun _ _ _ _ _ => pts_nil) (fun _ _ _ _ _ => pe_x fun C' k1 k2 => by have hK := k1.trans hK; have hca := k2.trans hca; exact (g_idxS hK (Small.blk hu) (g_pk (pv 2)) (g_val (g_bin op_modM (g_val (g_callTy call_intM rfl z_int (by decide +kernel) (ga_cons (g_pk (pv 8)) ga_nil))) (g_val g_int))) (fun _ _ => rfl) (fun _ _ => rfl))) (fun _ => rfl)))) (by rfl))
  (gs_one (gs_if (gt_cmp (op_eqS hK hu) (g_val (g_bin op_modM (g_val (g_callTy call_intM rfl z_int (by decide +kernel) (ga_cons (g_val (g_idxS hK hu (g_pk (pv 3)) (g_val g_int) (fun _ _ => rfl) (fun _ _ => rfl))) ga_nil))) (g_val g_int))) (g_val g_int) (by rfl))
  (gs_one (gs_append (pv 4) (g_val (g_bin op_addM (g_val (g_bin op_addM (g_val (g_idxS hK hu (g_pk (pv 2)) (g_val (g_bin op_modM (g_val (g_callTy call_intM rfl z_int (by decide +kernel) (ga_cons (g_val (g_idxS hK hu (g_pk (pv 6)) (g_val g_int) (fun _ _ => rfl) (fun _ _ => rfl))) ga_nil))) (g_val g_int))) (fun _ _ => rfl) (fun _ _ => rfl))) (g_val (g_idxS hK hu (g_pk (pv 2)) (g_pk (pv 5)) (fun _ _ => rfl) (fun _ _ => rfl))))) (g_pk (pv 7)))) rfl rfl rfl))
  (gs_one (gs_append (pv 4) (g_val (g_bin op_addM (g_val (g_bin op_addM (g_val (g_idxS hK hu (g_pk (pv 2)) (g_val (g_bin op_modM (g_val (g_callTy call_intM rfl z_int (by decide +kernel) (ga_cons (g_val (g_idxS hK hu (g_pk (pv 6)) (g_val g_int) (fun _ _ => rfl) (fun _ _ => rfl))) ga_nil))) (g_val g_int))) (fun _ _ => rfl) (fun _ _ => rfl))) (g_pk (pv 7)))) (g_val (g_idxS hK hu (g_pk (pv 2)) (g_val (g_bin op_subM (g_val g_int) (g_pk (pv 5)))) (fun _ _ => rfl) (fun _ _ => rfl))))) rfl rfl rfl)))))) (fun _ => rfl))
  (gs_one (gs_ret (g_mov (pv 4)))))))))
theorem h__law_tree (st : Stands K mg "_law_tree" ["numbers", "names"] s__law_tree) (z_int : mg "int" = none) (z_len : mg "len" = none) : Has P w K mg base ca "_law_tree" ["numbers", "names"] 1 r__law_tree :=
  has_mk (N := ["numbers", "names", "leaves", "pool", "number", "kind", "leaf", "sign", "at", "last", "tree", "part"]) (ps := ["numbers", "names"]) (k := 0) (bs := []) (ms := b__law_tree) st sc__law_tree (fun f cdv A outer s H E C hr hK hca hb hu => (gs_cons (gs_asg (i := 2) (bs := []) hb (by rfl) sc__law_tree.nd rfl (by first | exact .inl rfl | exact .inr rfl) (g_bin op_addM (g_pk (pv 1)) (g_val (g_lst (ga_cons (g_val g_str) (ga_cons (g_val g_str) (ga_cons (g_val g_str) ga_nil)))))) (by rfl))
  (gs_cons (gs_asg (i := 3) (bs := []) hb (by rfl) sc__law_tree.nd rfl (by first | exact .inl rfl | exact .inr rfl) (g_lst (ga_cons (g_val (g_idxS hK hu (g_pk (pv 2)) (g_val (g_bin op_modM (g_val (g_callTy call_intM rfl z_int (by decide +kernel) (ga_cons (g_val (g_idxS hK hu (g_pk (pv 0)) (g_val g_int) (fun _ _ => rfl) (fun _ _ => rfl))) ga_nil))) (g_val (g_callB (call_lenM hK) rfl z_len (by decide +kernel) (ga_cons (g_pk (pv 2)) ga_nil))))) (fun _ _ => rfl) (fun _ _ => rfl))) ga_nil)) (by rfl))
  (gs_cons (gs_for (passes_of rfl) rfl (gi_any hK (g_val (g_sl10 hK (g_pk (pv 0)) (g_val g_int)))) (pg_name (i := 4) sc__law_tree.nd rfl (by first | exact .inl rfl | exact .inr rfl)) (tgN_ok (bs := []) hb (by rfl)) (gs_cons (gs_asg (i := 5) (bs := []) hb (by rfl) sc__law_tree.nd rfl (by first | exact .inl rfl | exact .inr rfl) (g_bin op_modM (g_val (g_callTy call_intM rfl z_int (by decide +kernel) (ga_cons (g_pk (pv 4)) ga_nil))) (g_val g_int)) (by rfl))
  (gs_cons (gs_asg (i := 6) (bs := []) hb (by rfl) sc__law_tree.nd rfl (by first | exact .inl rfl | exact .inr rfl) (g_idxS hK hu (g_pk (pv 2)) (g_val (g_bin op_modM (g_val (g_callTy call_intM rfl z_int (by decide +kernel) (ga_cons (g_val (g_bin op_fdivM (g_pk (pv 4)) (g_val g_int))) ga_nil))) (g_val (g_callB (call_lenM hK) rfl z_len (by decide +kernel) (ga_cons (g_pk (pv 2)) ga_nil))))) (fun _ _ => rfl) (fun _ _ => rfl)) (by rfl))
  (gs_cons (gs_asg (i := 7) (bs := []) hb (by rfl) sc__law_tree.nd rfl (by first | exact .inl rfl | exact .inr rfl) (g_idxS hK hu (g_val g_str) (g_val (g_bin op_modM (g_val (g_callTy call_intM rfl z_int (by decide +kernel) (ga_cons (g_val (g_bin op_fdivM (g_pk (pv 4)) (g_val g_int))) ga_nil))) (g_val g_int))) (fun _ _ => rfl) (fun _ _ => rfl)) (by rfl))
  (gs_cons (gs_asg (i := 8) (bs := []) hb (by rfl) sc__law_tree.nd rfl (by first | exact .inl rfl | exact .inr rfl) (g_bin op_modM (g_val (g_callTy call_intM rfl z_int (by decide +kernel) (ga_cons (g_val (g_bin op_fdivM (g_pk (pv 4)) (g_val g_int))) ga_nil))) (g_val (g_callB (call_lenM hK) rfl z_len (by decide +kernel) (ga_cons (g_pk (pv 3)) ga_nil)))) (by rfl))
  (gs_one (gs_if (gt_cmp (op_eqS hK hu) (g_pk (pv 5)) (g_val g_int) (by rfl))
  (gs_one (gs_setIS hu (pv 3) (g_val (g_tup (ga_cons (g_val g_str) (ga_cons (g_val (g_idxS hK hu (g_pk (pv 3)) (g_pk (pv 8)) (fun _ _ => rfl) (fun _ _ => rfl))) ga_nil)))) (g_pk (pv 8)) (by rfl) (by rfl) (fun _ => rfl)))
  (gs_one (gs_if (gt_cmp (op_eqS hK hu) (g_pk (pv 5)) (g_val g_int) (by rfl))
  (gs_one (gs_append (pv 3) (g_val (g_var (pv 6))) rfl rfl rfl))
  (gs_one (gs_if (gt_cmp (op_eqS hK hu) (g_pk (pv 5)) (g_val g_int) (by rfl))
  (gs_one (gs_setIS hu (pv 3) (g_val (g_tup (ga_cons (g_val (g_var (pv 7))) (ga_cons (g_val (g_var (pv 6))) (ga_cons (g_val (g_idxS hK hu (g_pk (pv 3)) (g_pk (pv 8)) (fun _ _ => rfl) (fun _ _ => rfl))) ga_nil))))) (g_pk (pv 8)) (by rfl) (by rfl) (fun _ => rfl)))
  (gs_one (gs_if (gt_bool (gw_and (gt_cmp (op_eqS hK hu) (g_pk (pv 5)) (g_val g_int) (by rfl)) (gw_and1 (gt_cmp op_gtM (g_val (g_callB (call_lenM hK) rfl z_len (by decide +kernel) (ga_cons (g_pk (pv 3)) ga_nil))) (g_val g_int) (by rfl)))))
  (gs_cons (gs_asg (i := 9) (bs := []) hb (by rfl) sc__law_tree.nd rfl (by first | exact .inl rfl | exact .inr rfl) (g_pop (pv 3) rfl rfl) (by rfl))
  (gs_one (gs_setIS hu (pv 3) (g_val (g_tup (ga_cons (g_val (g_var (pv 7))) (ga_cons (g_val (g_idxS hK hu (g_pk (pv 3)) (g_val (g_un un_negM (g_val g_int))) (fun _ _ => rfl) (fun _ _ => rfl))) (ga_cons (g_val (g_var (pv 9))) ga_nil))))) (g_val (g_un un_negM (g_val g_int))) (by rfl) (by rfl) (fun _ => rfl))))
  (gs_one (gs_setIS hu (pv 3) (g_val (g_tup (ga_cons (g_val (g_var (pv 7))) (ga_cons (g_val (g_idxS hK hu (g_pk (pv 3)) (g_pk (pv 8)) (fun _ _ => rfl) (fun _ _ => rfl))) (ga_cons (g_val (g_var (pv 6))) ga_nil))))) (g_pk (pv 8)) (by rfl) (by rfl) (fun _ => rfl))))))))))))))) (fun _ => rfl))
  (gs_cons (gs_asg (i := 10) (bs := []) hb (by rfl) sc__law_tree.nd rfl (by first | exact .inl rfl | exact .inr rfl) (g_idxS hK hu (g_pk (pv 3)) (g_val g_int) (fun _ _ => rfl) (fun _ _ => rfl)) (by rfl))
  (gs_cons (gs_for (passes_of rfl) rfl (gi_any hK (g_val (g_sl10 hK (g_pk (pv 3)) (g_val g_int)))) (pg_name (i := 11) sc__law_tree.nd rfl (by first | exact .inl rfl | exact .inr rfl)) (tgN_ok (bs := []) hb (by rfl)) (gs_one (gs_asg (i := 10) (bs := []) hb (by rfl) sc__law_tree.nd rfl (by first | exact .inl rfl | exact .inr rfl) (g_tup (ga_cons (g_val (g_idxS hK hu (g_val g_str) (g_val (g_bin op_modM (g_val (g_callTy call_intM rfl z_int (by decide +kernel) (ga_cons (g_val (g_bin op_addM (g_val (g_callB (call_lenM hK) rfl z_len (by decide +kernel) (ga_cons (g_pk (pv 3)) ga_nil))) (g_val (g_idxS hK hu (g_pk (pv 0)) (g_val g_int) (fun _ _ => rfl) (fun _ _ => rfl))))) ga_nil))) (g_val g_int))) (fun _ _ => rfl) (fun _ _ => rfl))) (ga_cons (g_val (g_var (pv 10))) (ga_cons (g_val (g_var (pv 11))) ga_nil)))) (by rfl))) (fun _ => rfl))
  (gs_one (gs_ret (g_mov (pv 10))))))))))
theorem h__law_stack_need (st : Stands K mg "_law_stack_need" ["tree"] s__law_stack_need) (z_isinstance : mg "isinstance" = none) (z_str : mg "str" = none) (z_max : mg "max" = none) : ∀ n : Nat, Has P w K mg base ca "_law_stack_need" ["tree"] (n + 0) (r__law_stack_need n)
  | 0 => has_bad st
  | n + 1 => by
    have h__law_stack_need := h__law_stack_need st z_isinstance z_str z_max n
    exact Has.mono (has_mk (N := ["tree", "first"]) (ps := ["tree"]) (k := n + 0) (bs := []) (ms := b__law_stack_need (r__law_stack_need n)) st sc__law_stack_need (fun f cdv A outer s H E C hr hK hca hb hu => (gs_cons (gs_if (gt_val (g_isi (T := "str") (Ts := "str") hK rfl z_isinstance rfl z_str rfl (g_pk (pv 0))))
  (gs_one (gs_ret g_int))
  gs_nil)
  (gs_cons (gs_asg (i := 1) (bs := []) hb (by rfl) sc__law_stack_need.nd rfl (by first | exact .inl rfl | exact .inr rfl) (gg_call hK hca h__law_stack_need hr (by omega) rfl (takes_of rfl rfl rfl rfl) (ga_cons (g_val (g_idxS hK hu (g_pk (pv 0)) (g_val g_int) (fun _ _ => rfl) (fun _ _ => rfl))) ga_nil) rfl rfl) (by rfl))
  (gs_cons (gs_if (gt_cmp (op_eqS hK hu) (g_val (g_idxS hK hu (g_pk (pv 0)) (g_val g_int) (fun _ _ => rfl) (fun _ _ => rfl))) (g_val g_str) (by rfl))
  (gs_one (gs_ret (g_mov (pv 1))))
  gs_nil)
  (gs_one (gs_ret (g_callB (call_maxM rfl) rfl z_max (by decide +kernel) (ga_cons (g_pk (pv 1)) (ga_cons (g_val (g_bin op_addM (g_val (gg_call hK hca h__law_stack_need hr (by omega) rfl (takes_of rfl rfl rfl rfl) (ga_cons (g_val (g_idxS hK hu (g_pk (pv 0)) (g_val g_int) (fun _ _ => rfl) (fun _ _ => rfl))) ga_nil) rfl rfl)) (g_val g_int))) ga_nil)))))))))) (by omega)
theorem h__law_least_need (st : Stands K mg "_law_least_need" ["tree"] s__law_least_need) (z_isinstance : mg "isinstance" = none) (z_str : mg "str" = none) (z_max : mg "max" = none) (z_int : mg "int" = none) : ∀ n : Nat, Has P w K mg base ca "_law_least_need" ["tree"] (n + 0) (r__law_least_need n)
  | 0 => has_bad st
  | n + 1 => by
    have h__law_least_need := h__law_least_need st z_isinstance z_str z_max z_int n
    exact Has.mono (has_mk (N := ["tree", "first", "second"]) (ps := ["tree"]) (k := n + 0) (bs := []) (ms := b__law_least_need (r__law_least_need n)) st sc__law_least_need (fun f cdv A outer s H E C hr hK hca hb hu => (gs_cons (gs_if (gt_val (g_isi (T := "str") (Ts := "str") hK rfl z_isinstance rfl z_str rfl (g_pk (pv 0))))
  (gs_one (gs_ret g_int))
  gs_nil)
  (gs_cons (gs_asg (i := 1) (bs := []) hb (by rfl) sc__law_least_need.nd rfl (by first | exact .inl rfl | exact .inr rfl) (gg_call hK hca h__law_least_need hr (by omega) rfl (takes_of rfl rfl rfl rfl) (ga_cons (g_val (g_idxS hK hu (g_pk (pv 0)) (g_val g_int) (fun _ _ => rfl) (fun _ _ => rfl))) ga_nil) rfl rfl) (by rfl))
  (gs_cons (gs_if (gt_cmp (op_eqS hK hu) (g_val (g_idxS hK hu (g_pk (pv 0)) (g_val g_int) (fun _ _ => rfl) (fun _ _ => rfl))) (g_val g_str) (by rfl))
  (gs_one (gs_ret (g_mov (pv 1))))
  gs_nil)
  (gs_cons (gs_asg (i := 2) (bs := []) hb (by rfl) sc__law_least_need.nd rfl (by first | exact .inl rfl | exact .inr rfl) (gg_call hK hca h__law_least_need hr (by omega) rfl (takes_of rfl rfl rfl rfl) (ga_cons (g_val (g_idxS hK hu (g_pk (pv 0)) (g_val g_int) (fun _ _ => rfl) (fun _ _ => rfl))) ga_nil) rfl rfl) (by rfl))
  (gs_one (gs_ret (g_bin op_addM (g_val (g_callB (call_maxM rfl) rfl z_max (by decide +kernel) (ga_cons (g_pk (pv 1)) (ga_cons (g_pk (pv 2)) ga_nil)))) (g_val (g_callTy call_intM rfl z_int (by decide +kernel) (ga_cons (g_val (g_cmp (op_eqS hK hu) (g_pk (pv 1)) (g_pk (pv 2)) (by rfl))) ga_nil)))))))))))) (by omega)
theorem h__law_shallow (st : Stands K mg "_law_shallow" ["tree"] s__law_shallow) (z_isinstance : mg "isinstance" = none) (z_str : mg "str" = none) (h__law_least_need : Has P w K mg base ca "_law_least_need" ["tree"] 90 (r__law_least_need 90)) : ∀ n : Nat, Has P w K mg base ca "_law_shallow" ["tree"] (n + 90) (r__law_shallow n)
  | 0 => has_bad st
  | n + 1 => by
    have h__law_shallow := h__law_shallow st z_isinstance z_str h__law_least_need n
    exact Has.mono (has_mk (N := ["tree", "first", "second"]) (ps := ["tree"]) (k := n + 90) (bs := []) (ms := b__law_shallow (r__law_shallow n)) st sc__law_shallow (fun f cdv A outer s H E C hr hK hca hb hu => (gs_cons (gs_if (gt_val (g_isi (T := "str") (Ts := "str") hK rfl z_isinstance rfl z_str rfl (g_pk (pv 0))))
  (gs_one (gs_ret (g_mov (pv 0))))
  gs_nil)
  (gs_cons (gs_asg (i := 1) (bs := []) hb (by rfl) sc__law_shallow.nd rfl (by first | exact .inl rfl | exact .inr rfl) (gg_call hK hca h__law_shallow hr (by omega) rfl (takes_of rfl rfl rfl rfl) (ga_cons (g_val (g_idxS hK hu (g_pk (pv 0)) (g_val g_int) (fun _ _ => rfl) (fun _ _ => rfl))) ga_nil) rfl rfl) (by rfl))
  (gs_cons (gs_if (gt_cmp (op_eqS hK hu) (g_val (g_idxS hK hu (g_pk (pv 0)) (g_val g_int) (fun _ _ => rfl) (fun _ _ => rfl))) (g_val g_str) (by rfl))
  (gs_one (gs_ret (g_tup (ga_cons (g_val g_str) (ga_cons (g_val (g_var (pv 1))) ga_nil)))))
  gs_nil)
  (gs_cons (gs_asg (i := 2) (bs := []) hb (by rfl) sc__law_shallow.nd rfl (by first | exact .inl rfl | exact .inr rfl) (gg_call hK hca h__law_shallow hr (by omega) rfl (takes_of rfl rfl rfl rfl) (ga_cons (g_val (g_idxS hK hu (g_pk (pv 0)) (g_val g_int) (fun _ _ => rfl) (fun _ _ => rfl))) ga_nil) rfl rfl) (by rfl))
  (gs_cons (gs_if (gt_cmp op_gtM (g_val (gg_call hK hca h__law_least_need hr (by omega) rfl (takes_of rfl rfl rfl rfl) (ga_cons (g_val (g_var (pv 2))) ga_nil) rfl rfl)) (g_val (gg_call hK hca h__law_least_need hr (by omega) rfl (takes_of rfl rfl rfl rfl) (ga_cons (g_val (g_var (pv 1))) ga_nil) rfl rfl)) (by rfl))
  (gs_one (gs_ret (g_tup (ga_cons (g_val (g_idxS hK hu (g_pk (pv 0)) (g_val g_int) (fun _ _ => rfl) (fun _ _ => rfl))) (ga_cons (g_val (g_var (pv 2))) (ga_cons (g_val (g_var (pv 1))) ga_nil))))))
  gs_nil)
  (gs_one (gs_ret (g_tup (ga_cons (g_val (g_idxS hK hu (g_pk (pv 0)) (g_val g_int) (fun _ _ => rfl) (fun _ _ => rfl))) (ga_cons (g_val (g_var (pv 1))) (ga_cons (g_val (g_var (pv 2))) ga_nil))))))))))))) (by omega)
theorem h__law_exchanged (st : Stands K mg "_law_exchanged" ["tree", "bits"] s__law_exchanged) (z_isinstance : mg "isinstance" = none) (z_str : mg "str" = none) (z_int : mg "int" = none) : ∀ n : Nat, Has P w K mg base ca "_law_exchanged" ["tree", "bits"] (n + 0) (r__law_exchanged n)
  | 0 => has_bad st
  | n + 1 => by
    have h__law_exchanged := h__law_exchanged st z_isinstance z_str z_int n
    exact Has.mono (has_mk (N := ["tree", "bits", "first", "second"]) (ps := ["tree", "bits"]) (k := n + 0) (bs := [1]) (ms := b__law_exchanged (r__law_exchanged n)) st sc__law_exchanged (fun f cdv A outer s H E C hr hK hca hb hu => (gs_cons (gs_if (gt_val (g_isi (T := "str") (Ts := "str") hK rfl z_isinstance rfl z_str rfl (g_pk (pv 0))))
  (gs_one (gs_ret (g_mov (pv 0))))
  gs_nil)
  (gs_cons (gs_asg (i := 2) (bs := [1]) hb (by rfl) sc__law_exchanged.nd rfl (by first | exact .inl rfl | exact .inr rfl) (gg_call hK hca h__law_exchanged hr (by omega) rfl (takes_of rfl rfl rfl rfl) (ga_cons (g_val (g_idxS hK hu (g_pk (pv 0)) (g_val g_int) (fun _ _ => rfl) (fun _ _ => rfl))) (ga_cons (pv 1) ga_nil)) rfl rfl) (by rfl))
  (gs_cons (gs_if (gt_cmp (op_eqS hK hu) (g_val (g_idxS hK hu (g_pk (pv 0)) (g_val g_int) (fun _ _ => rfl) (fun _ _ => rfl))) (g_val g_str) (by rfl))
  (gs_one (gs_ret (g_tup (ga_cons (g_val g_str) (ga_cons (g_val (g_var (pv 2))) ga_nil)))))
  gs_nil)
  (gs_cons (gs_asg (i := 3) (bs := [1]) hb (by rfl) sc__law_exchanged.nd rfl (by first | exact .inl rfl | exact .inr rfl) (gg_call hK hca h__law_exchanged hr (by omega) rfl (takes_of rfl rfl rfl rfl) (ga_cons (g_val (g_idxS hK hu (g_pk (pv 0)) (g_val g_int) (fun _ _ => rfl) (fun _ _ => rfl))) (ga_cons (pv 1) ga_nil)) rfl rfl) (by rfl))
  (gs_cons (gs_if (gt_bool (gw_and (gt_tru hK (g_pk (pv 1))) (gw_and1 (gt_cmp (op_eqS hK hu) (g_val (g_bin op_modM (g_val (g_callTy call_intM rfl z_int (by decide +kernel) (ga_cons (g_val (g_pop (pv 1) rfl rfl)) ga_nil))) (g_val g_int))) (g_val g_int) (by rfl)))))
  (gs_one (gs_ret (g_tup (ga_cons (g_val (g_idxS hK hu (g_pk (pv 0)) (g_val g_int) (fun _ _ => rfl) (fun _ _ => rfl))) (ga_cons (g_val (g_var (pv 3))) (ga_cons (g_val (g_var (pv 2))) ga_nil))))))
  gs_nil)
  (gs_one (gs_ret (g_tup (ga_cons (g_val (g_idxS hK hu (g_pk (pv 0)) (g_val g_int) (fun _ _ => rfl) (fun _ _ => rfl))) (ga_cons (g_val (g_var (pv 2))) (ga_cons (g_val (g_var (pv 3))) ga_nil))))))))))))) (by omega)
theorem h__law_comb (st : Stands K mg "_law_comb" ["numbers", "names"] s__law_comb) (z_int : mg "int" = none) (z_len : mg "len" = none) : Has P w K mg base ca "_law_comb" ["numbers", "names"] 1 r__law_comb :=
  has_mk (N := ["numbers", "names", "tree", "number", "leaf"]) (ps := ["numbers", "names"]) (k := 0) (bs := []) (ms := b__law_comb) st sc__law_comb (fun f cdv A outer s H E C hr hK hca hb hu => (gs_cons (gs_asg (i := 2) (bs := []) hb (by rfl) sc__law_comb.nd rfl (by first | exact .inl rfl | exact .inr rfl) (g_idxS hK hu (g_pk (pv 1)) (g_val g_int) (fun _ _ => rfl) (fun _ _ => rfl)) (by rfl))
  (gs_cons (gs_for (passes_of rfl) rfl (gi_any hK (g_pk (pv 0))) (pg_name (i := 3) sc__law_comb.nd rfl (by first | exact .inl rfl | exact .inr rfl)) (tgN_ok (bs := []) hb (by rfl)) (gs_cons (gs_asg (i := 4) (bs := []) hb (by rfl) sc__law_comb.nd rfl (by first | exact .inl rfl | exact .inr rfl) (g_idxS hK hu (g_val (g_bin op_addM (g_pk (pv 1)) (g_val (g_lst (ga_cons (g_val g_str) (ga_cons (g_val g_str) ga_nil)))))) (g_val (g_bin op_modM (g_val (g_callTy call_intM rfl z_int (by decide +kernel) (ga_cons (g_val (g_bin op_fdivM (g_pk (pv 3)) (g_val g_int))) ga_nil))) (g_val (g_bin op_addM (g_val (g_callB (call_lenM hK) rfl z_len (by decide +kernel) (ga_cons (g_pk (pv 1)) ga_nil))) (g_val g_int))))) (fun _ _ => rfl) (fun _ _ => rfl)) (by rfl))
  (gs_cons (gs_asg (i := 2) (bs := []) hb (by rfl) sc__law_comb.nd rfl (by first | exact .inl rfl | exact .inr rfl) (g_tup (ga_cons (g_val (g_idxS hK hu (g_val g_str) (g_val (g_bin op_modM (g_val (g_callTy call_intM rfl z_int (by decide +kernel) (ga_cons (g_pk (pv 3)) ga_nil))) (g_val g_int))) (fun _ _ => rfl) (fun _ _ => rfl))) (ga_cons (g_val (g_var (pv 4))) (ga_cons (g_val (g_var (pv 2))) ga_nil)))) (by rfl))
  (gs_one (gs_if (gt_cmp (op_eqS hK hu) (g_val (g_bin op_modM (g_val (g_callTy call_intM rfl z_int (by decide +kernel) (ga_cons (g_val (g_bin op_fdivM (g_pk (pv 3)) (g_val g_int))) ga_nil))) (g_val g_int))) (g_val g_int) (by rfl))
  (gs_one (gs_asg (i := 2) (bs := []) hb (by rfl) sc__law_comb.nd rfl (by first | exact .inl rfl | exact .inr rfl) (g_tup (ga_cons (g_val g_str) (ga_cons (g_val (g_var (pv 2))) ga_nil))) (by rfl)))
  gs_nil)))) (fun _ => rfl))
  (gs_one (gs_ret (g_mov (pv 2)))))))
theorem h__law_full (st : Stands K mg "_law_full" ["depth", "number", "names"] s__law_full) (z_int : mg "int" = none) (z_len : mg "len" = none) (z_range : mg "range" = none) : Has P w K mg base ca "_law_full" ["depth", "number", "names"] 1 r__law_full :=
  has_mk (N := ["depth", "number", "names", "tree", "k"]) (ps := ["depth", "number", "names"]) (k := 0) (bs := []) (ms := b__law_full) st sc__law_full (fun f cdv A outer s H E C hr hK hca hb hu => (gs_cons (gs_asg (i := 3) (bs := []) hb (by rfl) sc__law_full.nd rfl (by first | exact .inl rfl | exact .inr rfl) (g_idxS hK hu (g_pk (pv 2)) (g_val (g_bin op_modM (g_val (g_callTy call_intM rfl z_int (by decide +kernel) (ga_cons (g_pk (pv 1)) ga_nil))) (g_val (g_callB (call_lenM hK) rfl z_len (by decide +kernel) (ga_cons (g_pk (pv 2)) ga_nil))))) (fun _ _ => rfl) (fun _ _ => rfl)) (by rfl))
  (gs_cons (gs_for (passes_of rfl) rfl (gi_range1 rfl z_range (ga_cons (g_pk (pv 0)) ga_nil) rfl) (pg_name (i := 4) sc__law_full.nd rfl (by first | exact .inl rfl | exact .inr rfl)) (tgN_ok (bs := []) hb (by rfl)) (gs_one (gs_asg (i := 3) (bs := []) hb (by rfl) sc__law_full.nd rfl (by first | exact .inl rfl | exact .inr rfl) (g_tup (ga_cons (g_val (g_idxS hK hu (g_val g_str) (g_val (g_bin op_modM (g_val (g_callTy call_intM rfl z_int (by decide +kernel) (ga_cons (g_val (g_bin op_fdivM (g_pk (pv 1)) (g_val (g_bin op_addM (g_val g_int) (g_pk (pv 4)))))) ga_nil))) (g_val g_int))) (fun _ _ => rfl) (fun _ _ => rfl))) (ga_cons (g_val (g_var (pv 3))) (ga_cons (g_val (g_var (pv 3))) ga_nil)))) (by rfl))) (fun _ => rfl))
  (gs_one (gs_ret (g_mov (pv 3)))))))
theorem h__law_depth_right (st : Stands K mg "_law_depth_right" ["tree", "due"] s__law_depth_right) (h_postfix : Has P w K mg base ca "postfix" ["tree"] 91 r_postfix) (h_depth_of : Has P w K mg base ca "depth_of" ["code"] 2 r_depth_of) (z_isinstance : mg "isinstance" = none) (z_int : mg "int" = none) (z_bool : mg "bool" = none) : Has P w K mg base ca "_law_depth_right" ["tree", "due"] 92 r__law_depth_right :=
  has_mk (N := ["tree", "due", "told"]) (ps := ["tree", "due"]) (k := 91) (bs := []) (ms := b__law_depth_right) st sc__law_depth_right (fun f cdv A outer s H E C hr hK hca hb hu => (gs_cons (gs_asg (i := 2) (bs := []) hb (by rfl) sc__law_depth_right.nd rfl (by first | exact .inl rfl | exact .inr rfl) (gg_call hK hca h_depth_of hr (by omega) rfl (takes_of rfl rfl rfl rfl) (ga_cons (g_val (g_bin op_addM (g_val (gg_call hK hca h_postfix hr (by omega) rfl (takes_of rfl rfl rfl rfl) (ga_cons (g_pk (pv 0)) ga_nil) rfl rfl)) (g_val (g_lst (ga_cons (g_val (g_tup (ga_cons (g_val g_str) (ga_cons (g_val g_str) ga_nil)))) ga_nil))))) ga_nil) rfl rfl) (by rfl))
  (gs_one (gs_ret (g_and (g_isi (T := "int") (Ts := "int") hK rfl z_isinstance rfl z_int rfl (g_pk (pv 2))) (g_and (g_not (g_isi (T := "bool") (Ts := "bool") hK rfl z_isinstance rfl z_bool rfl (g_pk (pv 2)))) (g_one (g_cmp (op_eqS hK hu) (g_pk (pv 2)) (g_pk (pv 1)) (by rfl)))))))))
theorem h__law_tree_right (st : Stands K mg "_law_tree_right" ["tree", "names", "numbers"] s__law_tree_right) (h__law_shallow : Has P w K mg base ca "_law_shallow" ["tree"] 180 (r__law_shallow 90)) (h__law_least_need : Has P w K mg base ca "_law_least_need" ["tree"] 90 (r__law_least_need 90)) (h_shallow : Has P w K mg base ca "shallow" ["tree"] 91 r_shallow) (h__law_stack_need : Has P w K mg base ca "_law_stack_need" ["tree"] 90 (r__law_stack_need 90)) (h__law_depth_right : Has P w K mg base ca "_law_depth_right" ["tree", "due"] 92 r__law_depth_right) (z_range : mg "range" = none) (h__law_exchanged : Has P w K mg base ca "_law_exchanged" ["tree", "bits"] 90 (r__law_exchanged 90)) (z_enumerate : mg "enumerate" = none) (z_int : mg "int" = none) (h_value_of : Has P w K mg base ca "value_of" ["tree", "signs"] 90 (r_value_of 90)) : Has P w K mg base ca "_law_tree_right" ["tree", "names", "numbers"] 181 r__law_tree_right :=
  has_mk (N := ["tree", "names", "numbers", "due", "least", "k", "bits", "other", "signs", "name", "number"]) (ps := ["tree", "names", "numbers"]) (k := 180) (bs := []) (ms := b__law_tree_right) st sc__law_tree_right (fun f cdv A outer s H E C hr hK hca hb hu => (gs_cons (gs_asg (i := 3) (bs := []) hb (by rfl) sc__law_tree_right.nd rfl (by first | exact .inl rfl | exact .inr rfl) (gg_call hK hca h__law_shallow hr (by omega) rfl (takes_of rfl rfl rfl rfl) (ga_cons (g_pk (pv 0)) ga_nil) rfl rfl) (by rfl))
  (gs_cons (gs_asg (i := 4) (bs := []) hb (by rfl) sc__law_tree_right.nd rfl (by first | exact .inl rfl | exact .inr rfl) (gg_call hK hca h__law_least_need hr (by omega) rfl (takes_of rfl rfl rfl rfl) (ga_cons (g_pk (pv 0)) ga_nil) rfl rfl) (by rfl))
  (gs_cons (gs_if (gt_bool (gw_or (gt_cmp (op_neS hK hu) (g_val (gg_call hK hca h_shallow hr (by omega) rfl (takes_of rfl rfl rfl rfl) (ga_cons (g_pk (pv 0)) ga_nil) rfl rfl)) (g_pk (pv 3)) (by rfl)) (gw_or (gt_cmp (op_neS hK hu) (g_val (gg_call hK hca h_shallow hr (by omega) rfl (takes_of rfl rfl rfl rfl) (ga_cons (g_val (g_var (pv 3))) ga_nil) rfl rfl)) (g_pk (pv 3)) (by rfl)) (gw_or1 (gt_not (gt_val (gg_call hK hca h__law_depth_right hr (by omega) rfl (takes_of rfl rfl rfl rfl) (ga_cons (g_pk (pv 0)) (ga_cons (g_val (gg_call hK hca h__law_stack_need hr (by omega) rfl (takes_of rfl rfl rfl rfl) (ga_cons (g_pk (pv 0)) ga_nil) rfl rfl)) ga_nil)) rfl rfl)))))))
  (gs_one (gs_ret g_bl))
  gs_nil)
  (gs_cons (gs_if (gt_not (gt_val (gg_call hK hca h__law_depth_right hr (by omega) rfl (takes_of rfl rfl rfl rfl) (ga_cons (g_val (g_var (pv 3))) (ga_cons (g_val (g_var (pv 4))) ga_nil)) rfl rfl)))
  (gs_one (gs_ret g_bl))
  gs_nil)
  (gs_cons (gs_for (passes_of rfl) rfl (gi_range1 rfl z_range (ga_cons (g_val g_int) ga_nil) rfl) (pg_name (i := 5) sc__law_tree_right.nd rfl (by first | exact .inl rfl | exact .inr rfl)) (tgN_ok (bs := []) hb (by rfl)) (gs_cons (gs_asgLc (i := 6) (bs := []) (own := [("number", 10)]) hK rfl sc__law_tree_right.nd hb (by rfl) (by rfl) (by rfl) (tgN_ok (bs := []) hb (by rfl)) ttYes rfl rfl (by rfl) (gi_any hK (g_pk (pv 2))) (blkOk_by (by rfl)) (fun _ _ _ _ _ => (pg_name (i := 10) sc__law_tree_right.nd rfl (by first | exact .inl rfl | exact .inr rfl))) (fun _ _ _ _ _ => pts_nil) (fun _ _ _ _ _ => pe_x fun C' k1 k2 => by have hK := k1.trans hK; have hca := k2.trans hca; exact (g_bin op_fdivM (g_pk (pv 10)) (g_val (g_bin op_addM (g_val g_int) (g_pk (pv 5)))))) (fun _ => rfl))
  (gs_cons (gs_asg (i := 7) (bs := []) hb (by rfl) sc__law_tree_right.nd rfl (by first | exact .inl rfl | exact .inr rfl) (gg_call hK hca h__law_exchanged hr (by omega) rfl (takes_of rfl rfl rfl rfl) (ga_cons (g_pk (pv 0)) (ga_cons (pv 6) ga_nil)) rfl rfl) (by rfl))
  (gs_cons (gs_if (gt_bool (gw_or (gt_cmp op_ltM (g_val (gg_call hK hca h__law_stack_need hr (by omega) rfl (takes_of rfl rfl rfl rfl) (ga_cons (g_val (g_var (pv 7))) ga_nil) rfl rfl)) (g_pk (pv 4)) (by rfl)) (gw_or1 (gt_not (gt_val (gg_call hK hca h__law_depth_right hr (by omega) rfl (takes_of rfl rfl rfl rfl) (ga_cons (g_val (g_var (pv 7))) (ga_cons (g_val (gg_call hK hca h__law_stack_need hr (by omega) rfl (takes_of rfl rfl rfl rfl) (ga_cons (g_val (g_var (pv 7))) ga_nil) rfl rfl)) ga_nil)) rfl rfl))))))
  (gs_one (gs_ret g_bl))
  gs_nil)
  (gs_one (gs_if (gt_not (gt_val (gg_call hK hca h__law_depth_right hr (by omega) rfl (takes_of rfl rfl rfl rfl) (ga_cons (g_val (gg_call hK hca h_shallow hr (by omega) rfl (takes_of rfl rfl rfl rfl) (ga_cons (g_val (g_var (pv 7))) ga_nil) rfl rfl)) (ga_cons (g_val (g_var (pv 4))) ga_nil)) rfl rfl)))
  (gs_one (gs_ret g_bl))
  gs_nil))))) (fun _ => rfl))
  (gs_cons (gs_asg (i := 8) (bs := []) hb (by rfl) sc__law_tree_right.nd rfl (by first | exact .inl rfl | exact .inr rfl) g_dnew (by rfl))
  (gs_cons (gs_for (passes_of rfl) rfl (gi_enum hK rfl z_enumerate (ga_cons (g_pk (pv 1)) ga_nil) rfl) (pg_tup rfl (pgs_cons (pg_name (i := 5) sc__law_tree_right.nd rfl (by first | exact .inl rfl | exact .inr rfl)) (pgs_cons (pg_name (i := 9) sc__law_tree_right.nd rfl (by first | exact .inl rfl | exact .inr rfl)) pgs_nil))) (tgT_okK (is := [5, 9]) (bs := []) hK hb (by rfl)) (gs_one (gs_setIS hu (pv 8) (g_val (g_idxS hK hu (g_val g_str) (g_val (g_bin op_modM (g_val (g_callTy call_intM rfl z_int (by decide +kernel) (ga_cons (g_val (g_idxS hK hu (g_pk (pv 2)) (g_pk (pv 5)) (fun _ _ => rfl) (fun _ _ => rfl))) ga_nil))) (g_val g_int))) (fun _ _ => rfl) (fun _ _ => rfl))) (g_pk (pv 9)) (by rfl) (by rfl) (fun _ => rfl))) (fun _ => rfl))
  (gs_one (gs_ret (g_cmp (op_eqS hK hu) (g_val (gg_call hK hca h_value_of hr (by omega) rfl (takes_of rfl rfl rfl rfl) (ga_cons (g_val (gg_call hK hca h_shallow hr (by omega) rfl (takes_of rfl rfl rfl rfl) (ga_cons (g_pk (pv 0)) ga_nil) rfl rfl)) (ga_cons (g_pk (pv 8)) ga_nil)) rfl rfl)) (g_val (gg_call hK hca h_value_of hr (by omega) rfl (takes_of rfl rfl rfl rfl) (ga_cons (g_pk (pv 0)) (ga_cons (g_pk (pv 8)) ga_nil)) rfl rfl)) (by rfl))))))))))))
theorem h_law (st : Stands K mg "law" ["script"] s_law) (h__law_cell : Has P w K mg base ca "_law_cell" ["script", "k"] 1 r__law_cell) (h__law_numbers : Has P w K mg base ca "_law_numbers" ["cell", "base", "count"] 1 r__law_numbers) (z_int : mg "int" = none) (h__law_names : Has P w K mg base ca "_law_names" ["cell", "count"] 2 r__law_names) (h__law_tree : Has P w K mg base ca "_law_tree" ["numbers", "names"] 1 r__law_tree) (h__law_comb : Has P w K mg base ca "_law_comb" ["numbers", "names"] 1 r__law_comb) (h__law_full : Has P w K mg base ca "_law_full" ["depth", "number", "names"] 1 r__law_full) (z_tuple : mg "tuple" = none) (h__law_tree_right : Has P w K mg base ca "_law_tree_right" ["tree", "names", "numbers"] 181 r__law_tree_right) (h_shallow : Has P w K mg base ca "shallow" ["tree"] 91 r_shallow) : Has P w K mg base ca "law" ["script"] 182 r_law :=
  has_mk (N := ["script", "plan", "names", "size", "bits", "drawn", "comb", "full", "both", "tree"]) (ps := ["script"]) (k := 181) (bs := []) (ms := b_law) st sc_law (fun f cdv A outer s H E C hr hK hca hb hu => (gs_cons (gs_asg (i := 1) (bs := []) hb (by rfl) sc_law.nd rfl (by first | exact .inl rfl | exact .inr rfl) (gg_call hK hca h__law_numbers hr (by omega) rfl (takes_of rfl rfl rfl rfl) (ga_cons (g_val (gg_call hK hca h__law_cell hr (by omega) rfl (takes_of rfl rfl rfl rfl) (ga_cons (g_pk (pv 0)) (ga_cons (g_val g_int) ga_nil)) rfl rfl)) (ga_cons (g_val g_int) (ga_cons (g_val g_int) ga_nil))) rfl rfl) (by rfl))
  (gs_cons (gs_asg (i := 2) (bs := []) hb (by rfl) sc_law.nd rfl (by first | exact .inl rfl | exact .inr rfl) (gg_call hK hca h__law_names hr (by omega) rfl (takes_of rfl rfl rfl rfl) (ga_cons (g_val (gg_call hK hca h__law_cell hr (by omega) rfl (takes_of rfl rfl rfl rfl) (ga_cons (g_pk (pv 0)) (ga_cons (g_val g_int) ga_nil)) rfl rfl)) (ga_cons (g_val (g_bin op_addM (g_val g_int) (g_val (g_bin op_modM (g_val (g_callTy call_intM rfl z_int (by decide +kernel) (ga_cons (g_val (g_idxS hK hu (g_pk (pv 1)) (g_val g_int) (fun _ _ => rfl) (fun _ _ => rfl))) ga_nil))) (g_val g_int))))) ga_nil)) rfl rfl) (by rfl))
  (gs_cons (gs_asg (i := 3) (bs := []) hb (by rfl) sc_law.nd rfl (by first | exact .inl rfl | exact .inr rfl) (g_bin op_addM (g_val g_int) (g_val (g_bin op_modM (g_val (g_callTy call_intM rfl z_int (by decide +kernel) (ga_cons (g_val (g_idxS hK hu (g_pk (pv 1)) (g_val g_int) (fun _ _ => rfl) (fun _ _ => rfl))) ga_nil))) (g_val g_int)))) (by rfl))
  (gs_cons (gs_if (gt_cmp (op_eqS hK hu) (g_val (g_bin op_modM (g_val (g_callTy call_intM rfl z_int (by decide +kernel) (ga_cons (g_val (g_idxS hK hu (g_pk (pv 1)) (g_val g_int) (fun _ _ => rfl) (fun _ _ => rfl))) ga_nil))) (g_val g_int))) (g_val g_int) (by rfl))
  (gs_one (gs_asg (i := 3) (bs := []) hb (by rfl) sc_law.nd rfl (by first | exact .inl rfl | exact .inr rfl) g_int (by rfl)))
  gs_nil)
  (gs_cons (gs_asg (i := 4) (bs := []) hb (by rfl) sc_law.nd rfl (by first | exact .inl rfl | exact .inr rfl) (gg_call hK hca h__law_numbers hr (by omega) rfl (takes_of rfl rfl rfl rfl) (ga_cons (g_val (gg_call hK hca h__law_cell hr (by omega) rfl (takes_of rfl rfl rfl rfl) (ga_cons (g_pk (pv 0)) (ga_cons (g_val g_int) ga_nil)) rfl rfl)) (ga_cons (g_val g_int) (ga_cons (g_val g_int) ga_nil))) rfl rfl) (by rfl))
  (gs_cons (gs_asg (i := 5) (bs := []) hb (by rfl) sc_law.nd rfl (by first | exact .inl rfl | exact .inr rfl) (gg_call hK hca h__law_tree hr (by omega) rfl (takes_of rfl rfl rfl rfl) (ga_cons (g_val (gg_call hK hca h__law_numbers hr (by omega) rfl (takes_of rfl rfl rfl rfl) (ga_cons (g_val (gg_call hK hca h__law_cell hr (by omega) rfl (takes_of rfl rfl rfl rfl) (ga_cons (g_pk (pv 0)) (ga_cons (g_val g_int) ga_nil)) rfl rfl)) (ga_cons (g_val g_int) (ga_cons (g_val (g_var (pv 3))) ga_nil))) rfl rfl)) (ga_cons (g_val (g_var (pv 2))) ga_nil)) rfl rfl) (by rfl))
  (gs_cons (gs_asg (i := 6) (bs := []) hb (by rfl) sc_law.nd rfl (by first | exact .inl rfl | exact .inr rfl) (gg_call hK hca h__law_comb hr (by omega) rfl (takes_of rfl rfl rfl rfl) (ga_cons (g_val (gg_call hK hca h__law_numbers hr (by omega) rfl (takes_of rfl rfl rfl rfl) (ga_cons (g_val (gg_call hK hca h__law_cell hr (by omega) rfl (takes_of rfl rfl rfl rfl) (ga_cons (g_pk (pv 0)) (ga_cons (g_val g_int) ga_nil)) rfl rfl)) (ga_cons (g_val g_int) (ga_cons (g_val (g_bin op_modM (g_val (g_callTy call_intM rfl z_int (by decide +kernel) (ga_cons (g_val (g_idxS hK hu (g_pk (pv 1)) (g_val g_int) (fun _ _ => rfl) (fun _ _ => rfl))) ga_nil))) (g_val g_int))) ga_nil))) rfl rfl)) (ga_cons (g_val (g_var (pv 2))) ga_nil)) rfl rfl) (by rfl))
  (gs_cons (gs_asg (i := 7) (bs := []) hb (by rfl) sc_law.nd rfl (by first | exact .inl rfl | exact .inr rfl) (gg_call hK hca h__law_full hr (by omega) rfl (takes_of rfl rfl rfl rfl) (ga_cons (g_val (g_bin op_modM (g_val (g_callTy call_intM rfl z_int (by decide +kernel) (ga_cons (g_val (g_idxS hK hu (g_pk (pv 1)) (g_val g_int) (fun _ _ => rfl) (fun _ _ => rfl))) ga_nil))) (g_val g_int))) (ga_cons (g_val (g_idxS hK hu (g_pk (pv 1)) (g_val g_int) (fun _ _ => rfl) (fun _ _ => rfl))) (ga_cons (g_val (g_var (pv 2))) ga_nil))) rfl rfl) (by rfl))
  (gs_cons (gs_asg (i := 8) (bs := []) hb (by rfl) sc_law.nd rfl (by first | exact .inl rfl | exact .inr rfl) (g_lst (ga_cons (g_val (g_idxS hK hu (g_val g_str) (g_val (g_bin op_modM (g_val (g_callTy call_intM rfl z_int (by decide +kernel) (ga_cons (g_val (g_idxS hK hu (g_pk (pv 1)) (g_val g_int) (fun _ _ => rfl) (fun _ _ => rfl))) ga_nil))) (g_val g_int))) (fun _ _ => rfl) (fun _ _ => rfl))) (ga_cons (g_val (g_var (pv 7))) (ga_cons (g_val (g_var (pv 6))) ga_nil)))) (by rfl))
  (gs_cons (gs_if (gt_cmp (op_eqS hK hu) (g_val (g_bin op_modM (g_val (g_callTy call_intM rfl z_int (by decide +kernel) (ga_cons (g_val (g_idxS hK hu (g_pk (pv 1)) (g_val g_int) (fun _ _ => rfl) (fun _ _ => rfl))) ga_nil))) (g_val g_int))) (g_val g_int) (by rfl))
  (gs_one (gs_asg (i := 8) (bs := []) hb (by rfl) sc_law.nd rfl (by first | exact .inl rfl | exact .inr rfl) (g_lst (ga_cons (g_val (g_idxS hK hu (g_pk (pv 8)) (g_val g_int) (fun _ _ => rfl) (fun _ _ => rfl))) (ga_cons (g_val (g_var (pv 6))) (ga_cons (g_val (g_var (pv 7))) ga_nil)))) (by rfl)))
  gs_nil)
  (gs_cons (gs_for (passes_of rfl) rfl (gi_any hK (g_val (g_lst (ga_cons (g_val (g_var (pv 5))) (ga_cons (g_val (g_var (pv 6))) (ga_cons (g_val (g_callTy (call_tupleM hK) rfl z_tuple (by decide +kernel) (ga_cons (g_val (g_var (pv 8))) ga_nil))) ga_nil)))))) (pg_name (i := 9) sc_law.nd rfl (by first | exact .inl rfl | exact .inr rfl)) (tgN_ok (bs := []) hb (by rfl)) (gs_one (gs_if (gt_not (gt_val (gg_call hK hca h__law_tree_right hr (by omega) rfl (takes_of rfl rfl rfl rfl) (ga_cons (g_val (g_var (pv 9))) (ga_cons (g_val (g_var (pv 2))) (ga_cons (g_val (g_var (pv 4))) ga_nil))) rfl rfl)))
  (gs_one (gs_ret g_bl))
  gs_nil)) (fun _ => rfl))
  (gs_one (gs_ret (g_and (g_cmp (op_eqS hK hu) (g_val (gg_call hK hca h_shallow hr (by omega) rfl (takes_of rfl rfl rfl rfl) (ga_cons (g_val g_str) ga_nil) rfl rfl)) (g_val g_str) (by rfl)) (g_one (g_cmp (op_eqS hK hu) (g_val (gg_call hK hca h_shallow hr (by omega) rfl (takes_of rfl rfl rfl rfl) (ga_cons (g_val (g_tup (ga_cons (g_val g_str) (ga_cons (g_val (g_idxS hK hu (g_pk (pv 2)) (g_val g_int) (fun _ _ => rfl) (fun _ _ => rfl))) ga_nil)))) ga_nil) rfl rfl)) (g_val (g_tup (ga_cons (g_val g_str) (ga_cons (g_val (g_idxS hK hu (g_pk (pv 2)) (g_val g_int) (fun _ _ => rfl) (fun _ _ => rfl))) ga_nil)))) (by rfl))))))))))))))))))
end
end K83

set_option Elab.async false
set_option linter.all false
set_option maxRecDepth 100000
set_option maxHeartbeats 4000000
namespace K83
open PySem PySem.Spec PyProof.Rows L2 M
section
variable {P : Program} {w : World} {K : PySem.W.Frag} {mg : Str → Option Value} {base : Heap} {ca : Str → Addr}
def fnl : List He.DefD := [⟨("value_of", none), "value_of", "value_of", defArgs s_value_of, defBody s_value_of, defScope s_value_of, [], []⟩, ⟨("is_ready", none), "is_ready", "is_ready", defArgs s_is_ready, defBody s_is_ready, defScope s_is_ready, [], []⟩, ⟨("_append_code", none), "_append_code", "_append_code", defArgs s__append_code, defBody s__append_code, defScope s__append_code, [], []⟩, ⟨("postfix", none), "postfix", "postfix", defArgs s_postfix, defBody s_postfix, defScope s_postfix, [], []⟩, ⟨("depth_of", none), "depth_of", "depth_of", defArgs s_depth_of, defBody s_depth_of, defScope s_depth_of, [], []⟩, ⟨("_shallow", none), "_shallow", "_shallow", defArgs s__shallow, defBody s__shallow, defScope s__shallow, [], []⟩, ⟨("shallow", none), "shallow", "shallow", defArgs s_shallow, defBody s_shallow, defScope s_shallow, [], []⟩, ⟨("_law_cell", none), "_law_cell", "_law_cell", defArgs s__law_cell, defBody s__law_cell, defScope s__law_cell, [], []⟩, ⟨("_law_numbers", none), "_law_numbers", "_law_numbers", defArgs s__law_numbers, defBody s__law_numbers, defScope s__law_numbers, [], []⟩, ⟨("_law_names", none), "_law_names", "_law_names", defArgs s__law_names, defBody s__law_names, defScope s__law_names, [], []⟩, ⟨("_law_tree", none), "_law_tree", "_law_tree", defArgs s__law_tree, defBody s__law_tree, defScope s__law_tree, [], []⟩, ⟨("_law_stack_need", none), "_law_stack_need", "_law_stack_need", defArgs s__law_stack_need, defBody s__law_stack_need, defScope s__law_stack_need, [], []⟩, ⟨("_law_least_need", none), "_law_least_need", "_law_least_need", defArgs s__law_least_need, defBody s__law_least_need, defScope s__law_least_need, [], []⟩, ⟨("_law_shallow", none), "_law_shallow", "_law_shallow", defArgs s__law_shallow, defBody s__law_shallow, defScope s__law_shallow, [], []⟩, ⟨("_law_exchanged", none), "_law_exchanged", "_law_exchanged", defArgs s__law_exchanged, defBody s__law_exchanged, defScope s__law_exchanged, [], []⟩, ⟨("_law_comb", none), "_law_comb", "_law_comb", defArgs s__law_comb, defBody s__law_comb, defScope s__law_comb, [], []⟩, ⟨("_law_full", none), "_law_full", "_law_full", defArgs s__law_full, defBody s__law_full, defScope s__law_full, [], []⟩, ⟨("_law_depth_right", none), "_law_depth_right", "_law_depth_right", defArgs s__law_depth_right, defBody s__law_depth_right, defScope s__law_depth_right, [], []⟩, ⟨("_law_tree_right", none), "_law_tree_right", "_law_tree_right", defArgs s__law_tree_right, defBody s__law_tree_right, defScope s__law_tree_right, [], []⟩, ⟨("law", none), "law", "law", defArgs s_law, defBody s_law, defScope s_law, [], []⟩]
def fal : List He.Fa := [.glo "value_of", .glo "is_ready", .glo "_append_code", .glo "postfix", .glo "depth_of", .glo "_shallow", .glo "shallow", .glo "_law_cell", .glo "_law_numbers", .glo "_law_names", .glo "_law_tree", .glo "_law_stack_need", .glo "_law_least_need", .glo "_law_shallow", .glo "_law_exchanged", .glo "_law_comb", .glo "_law_full", .glo "_law_depth_right", .glo "_law_tree_right", .glo "law", .free "isinstance", .free "str", .free "enumerate", .free "max", .free "len", .free "int", .free "range", .free "bool", .free "tuple", .glo "NOT", .glo "AND", .glo "OR", .glo "XOR", .glo "WORDS", .glo "GROWTH"]
def vtl : List VTab := [("NOT", tb_NOT), ("AND", tb_AND), ("OR", tb_OR), ("XOR", tb_XOR), ("WORDS", tb_WORDS), ("GROWTH", tb_GROWTH)]
theorem facts {P : Program} {w : World} {K : PySem.W.Frag} {h : Heap} {mg : Str → Option Value} (ca : Str → Addr) (X : K.In h) (G : h.Ns mainGlobals mg) {fa : Addr} (hmg : mg "law" = some (.ref fa)) (c : SaysV fal fnl vtl w K) :
    ∃ fd : FuncData, (∀ (s : Shared) (u : Value), BindsTo s fd ⟨[u], []⟩ [("script", u)]) ∧ ∀ base : Heap, FnOk P w K mg base (L2.CX P w) 182 fa fd ["script"] (spM K ca 1 r_law) := by
  have st_value_of : Stands K mg "value_of" ["tree", "signs"] s_value_of := c.stands X G 0 0 rfl rfl fun F => FunD.bindsN F fun _ _ _ _ _ _ us hl => match us, hl with | [_, _], _ => rfl
  have st_is_ready : Stands K mg "is_ready" ["word", "size"] s_is_ready := c.stands X G 1 1 rfl rfl fun F => FunD.bindsN F fun _ _ _ _ _ _ us hl => match us, hl with | [_, _], _ => rfl
  have st__append_code : Stands K mg "_append_code" ["tree", "code"] s__append_code := c.stands X G 2 2 rfl rfl fun F => FunD.bindsN F fun _ _ _ _ _ _ us hl => match us, hl with | [_, _], _ => rfl
  have st_postfix : Stands K mg "postfix" ["tree"] s_postfix := c.stands X G 3 3 rfl rfl fun F => FunD.bindsN F fun _ _ _ _ _ _ us hl => match us, hl with | [_], _ => rfl
  have st_depth_of : Stands K mg "depth_of" ["code"] s_depth_of := c.stands X G 4 4 rfl rfl fun F => FunD.bindsN F fun _ _ _ _ _ _ us hl => match us, hl with | [_], _ => rfl
  have st__shallow : Stands K mg "_shallow" ["tree"] s__shallow := c.stands X G 5 5 rfl rfl fun F => FunD.bindsN F fun _ _ _ _ _ _ us hl => match us, hl with | [_], _ => rfl
  have st_shallow : Stands K mg "shallow" ["tree"] s_shallow := c.stands X G 6 6 rfl rfl fun F => FunD.bindsN F fun _ _ _ _ _ _ us hl => match us, hl with | [_], _ => rfl
  have st__law_cell : Stands K mg "_law_cell" ["script", "k"] s__law_cell := c.stands X G 7 7 rfl rfl fun F => FunD.bindsN F fun _ _ _ _ _ _ us hl => match us, hl with | [_, _], _ => rfl
  have st__law_numbers : Stands K mg "_law_numbers" ["cell", "base", "count"] s__law_numbers := c.stands X G 8 8 rfl rfl fun F => FunD.bindsN F fun _ _ _ _ _ _ us hl => match us, hl with | [_, _, _], _ => rfl
  have st__law_names : Stands K mg "_law_names" ["cell", "count"] s__law_names := c.stands X G 9 9 rfl rfl fun F => FunD.bindsN F fun _ _ _ _ _ _ us hl => match us, hl with | [_, _], _ => rfl
  have st__law_tree : Stands K mg "_law_tree" ["numbers", "names"] s__law_tree := c.stands X G 10 10 rfl rfl fun F => FunD.bindsN F fun _ _ _ _ _ _ us hl => match us, hl with | [_, _], _ => rfl
  have st__law_stack_need : Stands K mg "_law_stack_need" ["tree"] s__law_stack_need := c.stands X G 11 11 rfl rfl fun F => FunD.bindsN F fun _ _ _ _ _ _ us hl => match us, hl with | [_], _ => rfl
  have st__law_least_need : Stands K mg "_law_least_need" ["tree"] s__law_least_need := c.stands X G 12 12 rfl rfl fun F => FunD.bindsN F fun _ _ _ _ _ _ us hl => match us, hl with | [_], _ => rfl
  have st__law_shallow : Stands K mg "_law_shallow" ["tree"] s__law_shallow := c.stands X G 13 13 rfl rfl fun F => FunD.bindsN F fun _ _ _ _ _ _ us hl => match us, hl with | [_], _ => rfl
  have st__law_exchanged : Stands K mg "_law_exchanged" ["tree", "bits"] s__law_exchanged := c.stands X G 14 14 rfl rfl fun F => FunD.bindsN F fun _ _ _ _ _ _ us hl => match us, hl with | [_, _], _ => rfl
  have st__law_comb : Stands K mg "_law_comb" ["numbers", "names"] s__law_comb := c.stands X G 15 15 rfl rfl fun F => FunD.bindsN F fun _ _ _ _ _ _ us hl => match us, hl with | [_, _], _ => rfl
  have st__law_full : Stands K mg "_law_full" ["depth", "number", "names"] s__law_full := c.stands X G 16 16 rfl rfl fun F => FunD.bindsN F fun _ _ _ _ _ _ us hl => match us, hl with | [_, _, _], _ => rfl
  have st__law_depth_right : Stands K mg "_law_depth_right" ["tree", "due"] s__law_depth_right := c.stands X G 17 17 rfl rfl fun F => FunD.bindsN F fun _ _ _ _ _ _ us hl => match us, hl with | [_, _], _ => rfl
  have st__law_tree_right : Stands K mg "_law_tree_right" ["tree", "names", "numbers"] s__law_tree_right := c.stands X G 18 18 rfl rfl fun F => FunD.bindsN F fun _ _ _ _ _ _ us hl => match us, hl with | [_, _, _], _ => rfl
  have st_law : Stands K mg "law" ["script"] s_law := c.stands X G 19 19 rfl rfl fun F => FunD.bindsN F fun _ _ _ _ _ _ us hl => match us, hl with | [_], _ => rfl
  have z_isinstance : mg "isinstance" = none := He.free_ok X G (c.fact 20 rfl)
  have z_str : mg "str" = none := He.free_ok X G (c.fact 21 rfl)
  have z_enumerate : mg "enumerate" = none := He.free_ok X G (c.fact 22 rfl)
  have z_max : mg "max" = none := He.free_ok X G (c.fact 23 rfl)
  have z_len : mg "len" = none := He.free_ok X G (c.fact 24 rfl)
  have z_int : mg "int" = none := He.free_ok X G (c.fact 25 rfl)
  have z_range : mg "range" = none := He.free_ok X G (c.fact 26 rfl)
  have z_bool : mg "bool" = none := He.free_ok X G (c.fact 27 rfl)
  have z_tuple : mg "tuple" = none := He.free_ok X G (c.fact 28 rfl)
  have m_NOT : mg "NOT" = some (.ref (He.ga K "NOT")) := He.glo_ok X G (c.fact 29 rfl)
  have t_NOT : KTab K w (He.ga K "NOT") tb_NOT := c.tab 0
  have m_AND : mg "AND" = some (.ref (He.ga K "AND")) := He.glo_ok X G (c.fact 30 rfl)
  have t_AND : KTab K w (He.ga K "AND") tb_AND := c.tab 1
  have m_OR : mg "OR" = some (.ref (He.ga K "OR")) := He.glo_ok X G (c.fact 31 rfl)
  have t_OR : KTab K w (He.ga K "OR") tb_OR := c.tab 2
  have m_XOR : mg "XOR" = some (.ref (He.ga K "XOR")) := He.glo_ok X G (c.fact 32 rfl)
  have t_XOR : KTab K w (He.ga K "XOR") tb_XOR := c.tab 3
  have m_WORDS : mg "WORDS" = some (.ref (He.ga K "WORDS")) := He.glo_ok X G (c.fact 33 rfl)
  have t_WORDS : KTab K w (He.ga K "WORDS") tb_WORDS := c.tab 4
  have m_GROWTH : mg "GROWTH" = some (.ref (He.ga K "GROWTH")) := He.glo_ok X G (c.fact 34 rfl)
  have t_GROWTH : KTab K w (He.ga K "GROWTH") tb_GROWTH := c.tab 5
  refine law_facts X hmg st_law (fun F s u => by obtain ⟨_, _, _, _, _, _, _, _, _, rfl, _, _⟩ := F.ex; exact .of_eq rfl) fun base => ?_
  have h_value_of : Has P w K mg base ca "value_of" ["tree", "signs"] 90 (r_value_of 90) := (Has.mono (h_value_of (P := P) (w := w) (base := base) (ca := ca) st_value_of z_isinstance z_str m_NOT t_NOT m_AND t_AND m_OR t_OR m_XOR t_XOR 90) (by decide))
  have h_is_ready : Has P w K mg base ca "is_ready" ["word", "size"] 1 r_is_ready := h_is_ready (P := P) (w := w) (base := base) (ca := ca) st_is_ready 
  have h__append_code : Has P w K mg base ca "_append_code" ["tree", "code"] 90 (r__append_code 90) := (Has.mono (h__append_code (P := P) (w := w) (base := base) (ca := ca) st__append_code z_isinstance z_str m_WORDS t_WORDS 90) (by decide))
  have h_postfix : Has P w K mg base ca "postfix" ["tree"] 91 r_postfix := h_postfix (P := P) (w := w) (base := base) (ca := ca) st_postfix h__append_code
  have h_depth_of : Has P w K mg base ca "depth_of" ["code"] 2 r_depth_of := h_depth_of (P := P) (w := w) (base := base) (ca := ca) st_depth_of z_enumerate h_is_ready m_GROWTH t_GROWTH z_max
  have h__shallow : Has P w K mg base ca "_shallow" ["tree"] 90 (r__shallow 90) := (Has.mono (h__shallow (P := P) (w := w) (base := base) (ca := ca) st__shallow z_isinstance z_str z_max 90) (by decide))
  have h_shallow : Has P w K mg base ca "shallow" ["tree"] 91 r_shallow := h_shallow (P := P) (w := w) (base := base) (ca := ca) st_shallow h__shallow
  have h__law_cell : Has P w K mg base ca "_law_cell" ["script", "k"] 1 r__law_cell := h__law_cell (P := P) (w := w) (base := base) (ca := ca) st__law_cell z_len
  have h__law_numbers : Has P w K mg base ca "_law_numbers" ["cell", "base", "count"] 1 r__law_numbers := h__law_numbers (P := P) (w := w) (base := base) (ca := ca) st__law_numbers z_int z_range
  have h__law_names : Has P w K mg base ca "_law_names" ["cell", "count"] 2 r__law_names := h__law_names (P := P) (w := w) (base := base) (ca := ca) st__law_names h__law_numbers z_range z_int
  have h__law_tree : Has P w K mg base ca "_law_tree" ["numbers", "names"] 1 r__law_tree := h__law_tree (P := P) (w := w) (base := base) (ca := ca) st__law_tree z_int z_len
  have h__law_stack_need : Has P w K mg base ca "_law_stack_need" ["tree"] 90 (r__law_stack_need 90) := (Has.mono (h__law_stack_need (P := P) (w := w) (base := base) (ca := ca) st__law_stack_need z_isinstance z_str z_max 90) (by decide))
  have h__law_least_need : Has P w K mg base ca "_law_least_need" ["tree"] 90 (r__law_least_need 90) := (Has.mono (h__law_least_need (P := P) (w := w) (base := base) (ca := ca) st__law_least_need z_isinstance z_str z_max z_int 90) (by decide))
  have h__law_shallow : Has P w K mg base ca "_law_shallow" ["tree"] 180 (r__law_shallow 90) := (Has.mono (h__law_shallow (P := P) (w := w) (base := base) (ca := ca) st__law_shallow z_isinstance z_str h__law_least_need 90) (by decide))
  have h__law_exchanged : Has P w K mg base ca "_law_exchanged" ["tree", "bits"] 90 (r__law_exchanged 90) := (Has.mono (h__law_exchanged (P := P) (w := w) (base := base) (ca := ca) st__law_exchanged z_isinstance z_str z_int 90) (by decide))
  have h__law_comb : Has P w K mg base ca "_law_comb" ["numbers", "names"] 1 r__law_comb := h__law_comb (P := P) (w := w) (base := base) (ca := ca) st__law_comb z_int z_len
  have h__law_full : Has P w K mg base ca "_law_full" ["depth", "number", "names"] 1 r__law_full := h__law_full (P := P) (w := w) (base := base) (ca := ca) st__law_full z_int z_len z_range
  have h__law_depth_right : Has P w K mg base ca "_law_depth_right" ["tree", "due"] 92 r__law_depth_right := h__law_depth_right (P := P) (w := w) (base := base) (ca := ca) st__law_depth_right h_postfix h_depth_of z_isinstance z_int z_bool
  have h__law_tree_right : Has P w K mg base ca "_law_tree_right" ["tree", "names", "numbers"] 181 r__law_tree_right := h__law_tree_right (P := P) (w := w) (base := base) (ca := ca) st__law_tree_right h__law_shallow h__law_least_need h_shallow h__law_stack_need h__law_depth_right z_range h__law_exchanged z_enumerate z_int h_value_of
  have h_law : Has P w K mg base ca "law" ["script"] 182 r_law := h_law (P := P) (w := w) (base := base) (ca := ca) st_law h__law_cell h__law_numbers z_int h__law_names h__law_tree h__law_comb h__law_full z_tuple h__law_tree_right h_shallow
  exact h_law
theorem law_end {P : Program} {w : World} {K : PySem.W.Frag} {h : Heap} {mg : Str → Option Value} {fa : Addr} (X : K.In h) (G : h.Ns mainGlobals mg) (hmg : mg "law" = some (.ref fa)) (c : SaysV fal fnl vtl w K) :
    ∃ (K : PySem.W.Frag) (ca : Str → Addr) (fd : FuncData), K.In h ∧ (∀ (s : Shared) (u : Value), BindsTo s fd ⟨[u], []⟩ [("script", u)]) ∧
      ∀ base : Heap, K.In base → base.Ns mainGlobals mg → FnOk P w K mg base (L2.CX P w) 182 fa fd ["script"] (spM K ca 1 r_law) := by
  obtain ⟨fd, hb, hF⟩ := facts (P := P) (fun x => He.ga K x) X G hmg c
  exact ⟨K, fun x => He.ga K x, fd, X, hb, fun base _ _ => hF base⟩
end
end K83

set_option Elab.async false
set_option linter.all false
set_option maxRecDepth 100000
set_option maxHeartbeats 4000000
namespace M
open PySem PySem.Spec PyProof.Rows L2
theorem kit_ss : kitB "str" "str" = some true := by decide +kernel
theorem kit_ts : kitB "tuple" "str" = some false := by decide +kernel
theorem kit_ii : kitB "int" "int" = some true := by decide +kernel
theorem kit_ib : kitB "int" "bool" = some false := by decide +kernel
@[simp] theorem isi_str_str {s : Str} : isiD "str" [.str s] = some (.fro (.bl true)) := by
  simp only [isiD, fn1, tyD]
  rw [kit_ss]
  rfl
@[simp] theorem isi_str_tup {ds : List D} : isiD "str" [.tup ds] = some (.fro (.bl false)) := by
  simp only [isiD, fn1, tyD]
  rw [kit_ts]
  rfl
@[simp] theorem isi_int_int {i : Int} : isiD "int" [.int i] = some (.fro (.bl true)) := by
  simp only [isiD, fn1, tyD]
  rw [kit_ii]
  rfl
@[simp] theorem isi_bool_int {i : Int} : isiD "bool" [.int i] = some (.fro (.bl false)) := by
  simp only [isiD, fn1, tyD]
  rw [kit_ib]
  rfl
@[simp] theorem ix30 {a b c : D} : ixD [.tup [a, b, c], .int 0] = some (.fro a) := rfl
@[simp] theorem ix31 {a b c : D} : ixD [.tup [a, b, c], .int 1] = some (.fro b) := rfl
@[simp] theorem ix32 {a b c : D} : ixD [.tup [a, b, c], .int 2] = some (.fro c) := rfl
@[simp] theorem ix20 {a b : D} : ixD [.tup [a, b], .int 0] = some (.fro a) := rfl
@[simp] theorem ix21 {a b : D} : ixD [.tup [a, b], .int 1] = some (.fro b) := rfl
@[simp] theorem ix10 {a : D} : ixD [.tup [a], .int 0] = some (.fro a) := rfl
theorem eqv_str {a b : Str} : PyData.eqv (.str a) (.str b) = decide (a = b) := by
  simp only [PyData.eqv]
  by_cases h : a = b
  · subst h; simp
  · simp [h]
theorem eqv_int {a b : Int} : PyData.eqv (.int a) (.int b) = decide (a = b) := by
  simp only [PyData.eqv]
  by_cases h : a = b
  · subst h; simp
  · simp [h]
@[simp] theorem eq_str {a b : Str} : eqD false [.str a, .str b] = some (.fro (.bl (decide (a = b)))) := by
  have h : ∀ x : Str, (PyData.str x).plain = true := fun _ => rfl
  have h2 : ∀ x : Str, (PyData.str x).depth = 0 := fun x => by simp only [PyData.depth]
  simp [eqD, eqv, D.toP, eqv_str, h, h2]
@[simp] theorem eq_int {a b : Int} : eqD false [.int a, .int b] = some (.fro (.bl (decide (a = b)))) := by
  have h : ∀ x : Int, (PyData.int x).plain = true := fun _ => rfl
  have h2 : ∀ x : Int, (PyData.int x).depth = 0 := fun x => by simp only [PyData.depth]
  simp [eqD, eqv, D.toP, eqv_int, h, h2]
/-! ### trees -/
inductive T where
  | leaf (s : Str) | neg (t : T) | bin (o : Fin 3) (a b : T)
def opS : Fin 3 → Str
  | 0 => "&" | 1 => "^" | 2 => "|"
def T.enc : T → D
  | .leaf s => .str s
  | .neg t => .tup [.str "!", t.enc]
  | .bin o a b => .tup [.str (opS o), a.enc, b.enc]
def T.dep : T → Nat
  | .leaf _ => 0
  | .neg t => t.dep + 1
  | .bin _ a b => max a.dep b.dep + 1
@[simp] theorem op_bang (o : Fin 3) : decide (opS o = ("!" : Str)) = false := by
  match o with
  | 0 => rfl
  | 1 => rfl
  | 2 => rfl
def T.need : T → Int
  | .leaf _ => 1
  | .neg t => t.need
  | .bin _ a b => max a.need (b.need + 1)
def T.least : T → Int
  | .leaf _ => 1
  | .neg t => t.least
  | .bin _ a b => max a.least b.least + if a.least = b.least then 1 else 0
def T.sh : T → T
  | .leaf s => .leaf s
  | .neg t => .neg t.sh
  | .bin o a b => if b.least > a.least then .bin o b.sh a.sh else .bin o a.sh b.sh
def T.size : T → Nat
  | .leaf _ => 1
  | .neg t => t.size + 1
  | .bin _ a b => a.size + b.size + 1
theorem T.size_pos : ∀ t : T, 0 < t.size
  | .leaf _ => Nat.one_pos
  | .neg t => Nat.succ_pos _
  | .bin _ a b => Nat.succ_pos _
theorem T.least_sh : ∀ t : T, t.sh.least = t.least
  | .leaf _ => rfl
  | .neg t => t.least_sh
  | .bin o a b => by
    have h1 := a.least_sh
    have h2 := b.least_sh
    simp only [T.sh]
    split <;> simp only [T.least, h1, h2]
    · split <;> split <;> omega
theorem T.dep_sh : ∀ t : T, t.sh.dep = t.dep
  | .leaf _ => rfl
  | .neg t => by simp only [T.sh, T.dep, t.dep_sh]
  | .bin o a b => by
    have h1 := a.dep_sh
    have h2 := b.dep_sh
    simp only [T.sh]
    split <;> simp only [T.dep, h1, h2]
    rw [Nat.max_comm]
theorem T.size_sh : ∀ t : T, t.sh.size = t.size
  | .leaf _ => rfl
  | .neg t => by simp only [T.sh, T.size, t.size_sh]
  | .bin o a b => by
    have h1 := a.size_sh
    have h2 := b.size_sh
    simp only [T.sh]
    split <;> simp only [T.size, h1, h2]
    omega
theorem T.sh_sh : ∀ t : T, t.sh.sh = t.sh
  | .leaf _ => rfl
  | .neg t => by simp only [T.sh, t.sh_sh]
  | .bin o a b => by
    have h1 := a.sh_sh
    have h2 := b.sh_sh
    have h3 := a.least_sh
    have h4 := b.least_sh
    by_cases h : b.least > a.least
    · have e : (T.bin o a b).sh = .bin o b.sh a.sh := by simp only [T.sh]; rw [if_pos h]
      rw [e]
      simp only [T.sh, h1, h2, h3, h4]
      rw [if_neg (by omega)]
    · have e : (T.bin o a b).sh = .bin o a.sh b.sh := by simp only [T.sh]; rw [if_neg h]
      rw [e]
      simp only [T.sh, h1, h2, h3, h4]
      rw [if_neg h]
theorem T.need_sh : ∀ t : T, t.sh.need = t.least
  | .leaf _ => rfl
  | .neg t => t.need_sh
  | .bin o a b => by
    have h1 := a.need_sh
    have h2 := b.need_sh
    simp only [T.sh]
    split <;> simp only [T.need, T.least, h1, h2]
    · split <;> omega
    · split <;> omega
theorem T.least_le : ∀ t : T, t.least ≤ t.need
  | .leaf _ => Int.le_refl _
  | .neg t => t.least_le
  | .bin o a b => by
    have h1 := a.least_le
    have h2 := b.least_le
    simp only [T.need, T.least]
    split <;> omega
theorem T.least_pos : ∀ t : T, 1 ≤ t.least
  | .leaf _ => Int.le_refl _
  | .neg t => t.least_pos
  | .bin o a b => by
    have h1 := a.least_pos
    simp only [T.least]
    split <;> omega
theorem T.need_pos (t : T) : 1 ≤ t.need := Int.le_trans t.least_pos t.least_le
/-! ### the bits' exchange -/
def T.exch : T → List Int → T × List Int
  | .leaf s, bs => (.leaf s, bs)
  | .neg t, bs => let r := t.exch bs; (.neg r.1, r.2)
  | .bin o a b, bs =>
    let r := a.exch bs
    let q := b.exch r.2
    if q.2 = [] then (.bin o r.1 q.1, []) else if (q.2.getLastD 0).fmod 2 = 1 then (.bin o q.1 r.1, q.2.dropLast) else (.bin o r.1 q.1, q.2.dropLast)
theorem T.exch_facts : ∀ (t : T) (bs : List Int), (t.exch bs).1.least = t.least ∧ (t.exch bs).1.dep = t.dep ∧ (t.exch bs).1.size = t.size
  | .leaf s, bs => ⟨rfl, rfl, rfl⟩
  | .neg t, bs => by
    obtain ⟨h1, h2, h3⟩ := t.exch_facts bs
    simp only [T.exch, T.least, T.dep, T.size, h1, h2, h3, and_self]
  | .bin o a b, bs => by
    obtain ⟨h1, h2, h3⟩ := a.exch_facts bs
    obtain ⟨k1, k2, k3⟩ := b.exch_facts (a.exch bs).2
    simp only [T.exch]
    split
    · simp only [T.least, T.dep, T.size, h1, h2, h3, k1, k2, k3, and_self]
    · split
      · simp only [T.least, T.dep, T.size, h1, h2, h3, k1, k2, k3]
        refine ⟨?_, ?_, ?_⟩
        · split <;> split <;> omega
        · rw [Nat.max_comm]
        · omega
      · simp only [T.least, T.dep, T.size, h1, h2, h3, k1, k2, k3, and_self]
/-! ### == of trees -/
theorem enc_plain : ∀ t : T, t.enc.toP.plain = true
  | .leaf s => rfl
  | .neg t => by
    have h := enc_plain t
    simp only [T.enc, D.toP, toPs, PyData.plain, PyData.plainAll, h, Bool.and_true]
  | .bin o a b => by
    have h := enc_plain a
    have h2 := enc_plain b
    simp only [T.enc, D.toP, toPs, PyData.plain, PyData.plainAll, h, h2, Bool.and_true]
theorem enc_depth : ∀ t : T, t.enc.toP.depth = t.dep
  | .leaf s => by simp only [T.enc, D.toP, PyData.depth, T.dep]
  | .neg t => by
    have h := enc_depth t
    simp only [T.enc, D.toP, toPs, PyData.depth, PyData.depthAll, h, T.dep]
    omega
  | .bin o a b => by
    have h := enc_depth a
    have h2 := enc_depth b
    simp only [T.enc, D.toP, toPs, PyData.depth, PyData.depthAll, h, h2, T.dep]
    omega
theorem ne_enc {t : T} (h : t.dep < 200) : eqD true [t.enc, t.enc] = some (.fro (.bl false)) := by
  have e : eqv t.enc t.enc = true := PySem.SeqAt.eqv_refl_plain _ (enc_plain t)
  simp only [eqD]
  rw [if_pos ⟨enc_plain t, enc_plain t, by rw [enc_depth]; omega⟩]
  simp only [e]
  rfl
theorem eq_enc {t : T} (h : t.dep < 200) : eqD false [t.enc, t.enc] = some (.fro (.bl true)) := by
  have e : eqv t.enc t.enc = true := PySem.SeqAt.eqv_refl_plain _ (enc_plain t)
  simp only [eqD]
  rw [if_pos ⟨enc_plain t, enc_plain t, by rw [enc_depth]; omega⟩]
  simp only [e]
  rfl
/-! ### loops -/
inductive Goes (tgt : D → En → Option En) (body : En → Out) : List D → En → En → Prop
  | nil {e : En} : Goes tgt body [] e e
  | cons {d : D} {r : List D} {e e1 e2 e3 : En} : tgt d e = some e1 → body e1 = .nx e2 → Goes tgt body r e2 e3 → Goes tgt body (d :: r) e e3
theorem Goes.run {tgt : D → En → Option En} {body : En → Out} {L : List D} {e e' : En} (h : Goes tgt body L e e') : forL tgt body L e = .nx e' := by
  induction h with
  | nil => rfl
  | cons h1 h2 _ ih =>
    unfold forL
    simp only [h1, h2, ih]
theorem Goes.append {tgt : D → En → Option En} {body : En → Out} {L M : List D} {e e1 e2 : En} (h : Goes tgt body L e e1) (k : Goes tgt body M e1 e2) : Goes tgt body (L ++ M) e e2 := by
  induction h with
  | nil => exact k
  | cons h1 h2 _ ih => exact .cons h1 h2 (ih k)
def Enum : List D → List D → Prop
  | [], [] => True
  | d :: L, c :: C => (∃ i : Int, d = .tup [.int i, c]) ∧ Enum L C
  | _, _ => False
theorem Enum.split : ∀ {A B L : List D}, Enum L (A ++ B) → ∃ L1 L2, L = L1 ++ L2 ∧ Enum L1 A ∧ Enum L2 B
  | [], B, L, h => ⟨[], L, rfl, trivial, h⟩
  | a :: A, B, [], h => h.elim
  | a :: A, B, d :: L, ⟨h1, h2⟩ => by
    obtain ⟨L1, L2, e, k1, k2⟩ := Enum.split h2
    exact ⟨d :: L1, L2, by rw [e]; rfl, ⟨h1, k1⟩, k2⟩
theorem enum_map (f : Nat → D) : ∀ l : List Nat, Enum (l.map fun i : Nat => D.tup [.int (i : Int), f i]) (l.map f)
  | [] => trivial
  | i :: l => ⟨⟨i, rfl⟩, enum_map f l⟩
theorem enum_enumD (ds : List D) : Enum (enumD ds) ds := by
  have h := enum_map (fun i => ds.getD i .non) (List.range ds.length)
  have e : (List.range ds.length).map (fun i => ds.getD i .non) = ds := by
    refine List.ext_getElem (by simp) fun i h1 h2 => ?_
    simp [List.getElem?_eq_getElem h2]
  rw [e] at h
  exact h
/-! ### the machine's code -/
def wordS : Fin 3 → Str
  | 0 => "and" | 1 => "xor" | 2 => "or"
def T.code : T → List D
  | .leaf s => if s = "?" then [.tup [.str "const", .str "x"]] else if s = "0" ∨ s = "1" then [.tup [.str "const", .str s]] else [.tup [.str "wire", .str s]]
  | .neg t => t.code ++ [.tup [.str "not"]]
  | .bin o a b => a.code ++ (b.code ++ [.tup [.str (wordS o)]])
theorem T.code_len : ∀ t : T, t.code.length = t.size
  | .leaf s => by
    simp only [T.code, T.size]
    split
    · rfl
    · split <;> rfl
  | .neg t => by simp [T.code, T.size, t.code_len]
  | .bin o a b => by simp [T.code, T.size, a.code_len, b.code_len]; omega
/-! ### the value -/
def vS : Fin 3 → Str
  | 0 => "0" | 1 => "1" | 2 => "x"
theorem vS_len (v : Fin 3) : (vS v).length = 1 := by
  match v with
  | 0 => rfl
  | 1 => rfl
  | 2 => rfl
def notF : Fin 3 → Fin 3
  | 0 => 1 | 1 => 0 | 2 => 2
def opF (o a b : Fin 3) : Fin 3 := match o with
  | 0 => if a = 0 ∨ b = 0 then 0 else if a = 1 ∧ b = 1 then 1 else 2
  | 1 => if a = 2 ∨ b = 2 then 2 else if a = b then 0 else 1
  | 2 => if a = 1 ∨ b = 1 then 1 else if a = 0 ∧ b = 0 then 0 else 2
theorem opF_comm : ∀ o a b : Fin 3, opF o a b = opF o b a := by decide
def T.val (g : Str → Fin 3) : T → Fin 3
  | .leaf s => if s = "0" then 0 else if s = "1" then 1 else if s = "?" then 2 else g s
  | .neg t => notF (t.val g)
  | .bin o a b => opF o (a.val g) (b.val g)
theorem T.val_sh (g : Str → Fin 3) : ∀ t : T, t.sh.val g = t.val g
  | .leaf _ => rfl
  | .neg t => by simp only [T.sh, T.val, t.val_sh]
  | .bin o a b => by
    have h1 := a.val_sh g
    have h2 := b.val_sh g
    simp only [T.sh]
    split <;> simp only [T.val, h1, h2]
    rw [opF_comm]
/-- the leaves that are names -/
def T.lv (P : Str → Prop) : T → Prop
  | .leaf s => s = "0" ∨ s = "1" ∨ s = "?" ∨ P s
  | .neg t => t.lv P
  | .bin _ a b => a.lv P ∧ b.lv P
theorem T.lv_sh {P : Str → Prop} : ∀ t : T, t.lv P → t.sh.lv P
  | .leaf _, h => h
  | .neg t, h => t.lv_sh h
  | .bin o a b, h => by
    simp only [T.sh]
    split
    · exact ⟨b.lv_sh h.2, a.lv_sh h.1⟩
    · exact ⟨a.lv_sh h.1, b.lv_sh h.2⟩
end M

set_option Elab.async false
set_option linter.all false
set_option maxRecDepth 100000
set_option maxHeartbeats 1000000
namespace K83
open PySem PySem.Spec L2 M
theorem run_need : ∀ (t : T) (n : Nat), t.dep < n → ∃ o, r__law_stack_need n [.fro t.enc] = .ok (.fro (.int t.need)) o
  | .leaf s, n + 1, h => by
    refine ⟨[.fro (.str s), .non], ?_⟩
    simp [r__law_stack_need, b__law_stack_need, T.enc, T.need, fnRun, ownIn, mSeq, mIfS, outOf, outOfB, outOfL, mOp, mB, mCon, mVar, mMov, mRet, mRetN, mAsg, mCall, borL, afterB, goneB, mTup, mLst, froL, Sl.d, Sl.sh, Sl.lk, ops, RS.bind, mNext, clean, mNot, mAnd, mOr, mAndV, mOrV, mNotV, mDrop, mTru, truD, mInt, mDnew, addD, subD, intD2, M.intD, maxD, minD, fn1, fn2, cmpD, ltD, leD, gtD, geD, fdivD, modD, negD, mUnp, setAll, mAug, mAppend, mPop, mSetI, mFor, mSrc, srcF, rng1, enmF]
  | .neg t, n + 1, h => by
    obtain ⟨o, e⟩ := run_need t n (by simp only [T.dep] at h; omega)
    refine ⟨[.fro (T.neg t).enc, .fro (.int t.need)], ?_⟩
    simp [r__law_stack_need, b__law_stack_need, T.enc, T.need, e, fnRun, ownIn, mSeq, mIfS, outOf, outOfB, outOfL, mOp, mB, mCon, mVar, mMov, mRet, mRetN, mAsg, mCall, borL, afterB, goneB, mTup, mLst, froL, Sl.d, Sl.sh, Sl.lk, ops, RS.bind, mNext, clean, mNot, mAnd, mOr, mAndV, mOrV, mNotV, mDrop, mTru, truD, mInt, mDnew, addD, subD, intD2, M.intD, maxD, minD, fn1, fn2, cmpD, ltD, leD, gtD, geD, fdivD, modD, negD, mUnp, setAll, mAug, mAppend, mPop, mSetI, mFor, mSrc, srcF, rng1, enmF]
  | .bin op a b, n + 1, h => by
    obtain ⟨o, e⟩ := run_need a n (by simp only [T.dep] at h; omega)
    obtain ⟨o2, e2⟩ := run_need b n (by simp only [T.dep] at h; omega)
    refine ⟨[.fro (T.bin op a b).enc, .fro (.int a.need)], ?_⟩
    simp [r__law_stack_need, b__law_stack_need, T.enc, T.need, e, e2, fnRun, ownIn, mSeq, mIfS, outOf, outOfB, outOfL, mOp, mB, mCon, mVar, mMov, mRet, mRetN, mAsg, mCall, borL, afterB, goneB, mTup, mLst, froL, Sl.d, Sl.sh, Sl.lk, ops, RS.bind, mNext, clean, mNot, mAnd, mOr, mAndV, mOrV, mNotV, mDrop, mTru, truD, mInt, mDnew, addD, subD, intD2, M.intD, maxD, minD, fn1, fn2, cmpD, ltD, leD, gtD, geD, fdivD, modD, negD, mUnp, setAll, mAug, mAppend, mPop, mSetI, mFor, mSrc, srcF, rng1, enmF]
    omega
theorem run_least : ∀ (t : T) (n : Nat), t.dep < n → ∃ o, r__law_least_need n [.fro t.enc] = .ok (.fro (.int t.least)) o
  | .leaf s, n + 1, h => by
    refine ⟨[.fro (.str s), .non, .non], ?_⟩
    simp [r__law_least_need, b__law_least_need, T.enc, T.least, fnRun, ownIn, mSeq, mIfS, outOf, outOfB, outOfL, mOp, mB, mCon, mVar, mMov, mRet, mRetN, mAsg, mCall, borL, afterB, goneB, mTup, mLst, froL, Sl.d, Sl.sh, Sl.lk, ops, RS.bind, mNext, clean, mNot, mAnd, mOr, mAndV, mOrV, mNotV, mDrop, mTru, truD, mInt, mDnew, addD, subD, intD2, M.intD, maxD, minD, fn1, fn2, cmpD, ltD, leD, gtD, geD, fdivD, modD, negD, mUnp, setAll, mAug, mAppend, mPop, mSetI, mFor, mSrc, srcF, rng1, enmF]
  | .neg t, n + 1, h => by
    obtain ⟨o, e⟩ := run_least t n (by simp only [T.dep] at h; omega)
    refine ⟨[.fro (T.neg t).enc, .fro (.int t.least), .non], ?_⟩
    simp [r__law_least_need, b__law_least_need, T.enc, T.least, e, fnRun, ownIn, mSeq, mIfS, outOf, outOfB, outOfL, mOp, mB, mCon, mVar, mMov, mRet, mRetN, mAsg, mCall, borL, afterB, goneB, mTup, mLst, froL, Sl.d, Sl.sh, Sl.lk, ops, RS.bind, mNext, clean, mNot, mAnd, mOr, mAndV, mOrV, mNotV, mDrop, mTru, truD, mInt, mDnew, addD, subD, intD2, M.intD, maxD, minD, fn1, fn2, cmpD, ltD, leD, gtD, geD, fdivD, modD, negD, mUnp, setAll, mAug, mAppend, mPop, mSetI, mFor, mSrc, srcF, rng1, enmF]
  | .bin op a b, n + 1, h => by
    obtain ⟨o, e⟩ := run_least a n (by simp only [T.dep] at h; omega)
    obtain ⟨o2, e2⟩ := run_least b n (by simp only [T.dep] at h; omega)
    refine ⟨[.fro (T.bin op a b).enc, .fro (.int a.least), .fro (.int b.least)], ?_⟩
    simp [r__law_least_need, b__law_least_need, T.enc, T.least, e, e2, fnRun, ownIn, mSeq, mIfS, outOf, outOfB, outOfL, mOp, mB, mCon, mVar, mMov, mRet, mRetN, mAsg, mCall, borL, afterB, goneB, mTup, mLst, froL, Sl.d, Sl.sh, Sl.lk, ops, RS.bind, mNext, clean, mNot, mAnd, mOr, mAndV, mOrV, mNotV, mDrop, mTru, truD, mInt, mDnew, addD, subD, intD2, M.intD, maxD, minD, fn1, fn2, cmpD, ltD, leD, gtD, geD, fdivD, modD, negD, mUnp, setAll, mAug, mAppend, mPop, mSetI, mFor, mSrc, srcF, rng1, enmF]
    by_cases c : a.least < b.least
    · simp [c]; omega
    · simp [c]; omega
theorem run_lsh : ∀ (t : T) (n : Nat), t.dep < n → t.dep < 90 → ∃ o, r__law_shallow n [.fro t.enc] = .ok (.fro t.sh.enc) o
  | .leaf s, n + 1, h, _ => by
    refine ⟨[.fro (.str s), .non, .non], ?_⟩
    simp [r__law_shallow, b__law_shallow, T.enc, T.sh, fnRun, ownIn, mSeq, mIfS, outOf, outOfB, outOfL, mOp, mB, mCon, mVar, mMov, mRet, mRetN, mAsg, mCall, borL, afterB, goneB, mTup, mLst, froL, Sl.d, Sl.sh, Sl.lk, ops, RS.bind, mNext, clean, mNot, mAnd, mOr, mAndV, mOrV, mNotV, mDrop, mTru, truD, mInt, mDnew, addD, subD, intD2, M.intD, maxD, minD, fn1, fn2, cmpD, ltD, leD, gtD, geD, fdivD, modD, negD, mUnp, setAll, mAug, mAppend, mPop, mSetI, mFor, mSrc, srcF, rng1, enmF]
  | .neg t, n + 1, h, h2 => by
    obtain ⟨o, e⟩ := run_lsh t n (by simp only [T.dep] at h; omega) (by simp only [T.dep] at h2; omega)
    refine ⟨[.fro (T.neg t).enc, .fro t.sh.enc, .non], ?_⟩
    simp [r__law_shallow, b__law_shallow, T.enc, T.sh, e, fnRun, ownIn, mSeq, mIfS, outOf, outOfB, outOfL, mOp, mB, mCon, mVar, mMov, mRet, mRetN, mAsg, mCall, borL, afterB, goneB, mTup, mLst, froL, Sl.d, Sl.sh, Sl.lk, ops, RS.bind, mNext, clean, mNot, mAnd, mOr, mAndV, mOrV, mNotV, mDrop, mTru, truD, mInt, mDnew, addD, subD, intD2, M.intD, maxD, minD, fn1, fn2, cmpD, ltD, leD, gtD, geD, fdivD, modD, negD, mUnp, setAll, mAug, mAppend, mPop, mSetI, mFor, mSrc, srcF, rng1, enmF]
  | .bin op a b, n + 1, h, h2 => by
    have ha : a.dep < n := by simp only [T.dep] at h; omega
    have hb : b.dep < n := by simp only [T.dep] at h; omega
    have ha2 : a.dep < 90 := by simp only [T.dep] at h2; omega
    have hb2 : b.dep < 90 := by simp only [T.dep] at h2; omega
    obtain ⟨o, e⟩ := run_lsh a n ha ha2
    obtain ⟨o2, e2⟩ := run_lsh b n hb hb2
    obtain ⟨o3, e3⟩ := run_least a.sh 90 (by rw [T.dep_sh]; exact ha2)
    obtain ⟨o4, e4⟩ := run_least b.sh 90 (by rw [T.dep_sh]; exact hb2)
    rw [T.least_sh] at e3 e4
    refine ⟨[.fro (T.bin op a b).enc, .fro a.sh.enc, .fro b.sh.enc], ?_⟩
    by_cases c : b.least > a.least
    · simp [r__law_shallow, b__law_shallow, T.enc, T.sh, e, e2, e3, e4, c, fnRun, ownIn, mSeq, mIfS, outOf, outOfB, outOfL, mOp, mB, mCon, mVar, mMov, mRet, mRetN, mAsg, mCall, borL, afterB, goneB, mTup, mLst, froL, Sl.d, Sl.sh, Sl.lk, ops, RS.bind, mNext, clean, mNot, mAnd, mOr, mAndV, mOrV, mNotV, mDrop, mTru, truD, mInt, mDnew, addD, subD, intD2, M.intD, maxD, minD, fn1, fn2, cmpD, ltD, leD, gtD, geD, fdivD, modD, negD, mUnp, setAll, mAug, mAppend, mPop, mSetI, mFor, mSrc, srcF, rng1, enmF]
    · simp [r__law_shallow, b__law_shallow, T.enc, T.sh, e, e2, e3, e4, c, fnRun, ownIn, mSeq, mIfS, outOf, outOfB, outOfL, mOp, mB, mCon, mVar, mMov, mRet, mRetN, mAsg, mCall, borL, afterB, goneB, mTup, mLst, froL, Sl.d, Sl.sh, Sl.lk, ops, RS.bind, mNext, clean, mNot, mAnd, mOr, mAndV, mOrV, mNotV, mDrop, mTru, truD, mInt, mDnew, addD, subD, intD2, M.intD, maxD, minD, fn1, fn2, cmpD, ltD, leD, gtD, geD, fdivD, modD, negD, mUnp, setAll, mAug, mAppend, mPop, mSetI, mFor, mSrc, srcF, rng1, enmF]
theorem run__sh : ∀ (t : T) (n : Nat), t.dep < n → ∃ o, r__shallow n [.fro t.enc] = .ok (.fro (.tup [t.sh.enc, .int t.least])) o
  | .leaf s, n + 1, h => by
    refine ⟨[.fro (.str s), .non, .non, .non, .non], ?_⟩
    simp [r__shallow, b__shallow, T.enc, T.sh, T.least, fnRun, ownIn, mSeq, mIfS, outOf, outOfB, outOfL, mOp, mB, mCon, mVar, mMov, mRet, mRetN, mAsg, mCall, borL, afterB, goneB, mTup, mLst, froL, Sl.d, Sl.sh, Sl.lk, ops, RS.bind, mNext, clean, mNot, mAnd, mOr, mAndV, mOrV, mNotV, mDrop, mTru, truD, mInt, mDnew, addD, subD, intD2, M.intD, maxD, minD, fn1, fn2, cmpD, ltD, leD, gtD, geD, fdivD, modD, negD, mUnp, setAll, mAug, mAppend, mPop, mSetI, mFor, mSrc, srcF, rng1, enmF]
  | .neg t, n + 1, h => by
    obtain ⟨o, e⟩ := run__sh t n (by simp only [T.dep] at h; omega)
    refine ⟨[.fro (T.neg t).enc, .fro t.sh.enc, .fro (.int t.least), .non, .non], ?_⟩
    simp [r__shallow, b__shallow, T.enc, T.sh, T.least, e, fnRun, ownIn, mSeq, mIfS, outOf, outOfB, outOfL, mOp, mB, mCon, mVar, mMov, mRet, mRetN, mAsg, mCall, borL, afterB, goneB, mTup, mLst, froL, Sl.d, Sl.sh, Sl.lk, ops, RS.bind, mNext, clean, mNot, mAnd, mOr, mAndV, mOrV, mNotV, mDrop, mTru, truD, mInt, mDnew, addD, subD, intD2, M.intD, maxD, minD, fn1, fn2, cmpD, ltD, leD, gtD, geD, fdivD, modD, negD, mUnp, setAll, mAug, mAppend, mPop, mSetI, mFor, mSrc, srcF, rng1, enmF]
  | .bin op a b, n + 1, h => by
    obtain ⟨o, e⟩ := run__sh a n (by simp only [T.dep] at h; omega)
    obtain ⟨o2, e2⟩ := run__sh b n (by simp only [T.dep] at h; omega)
    refine ⟨[.fro (T.bin op a b).enc, .fro a.sh.enc, .fro (.int a.least), .fro b.sh.enc, .fro (.int b.least)], ?_⟩
    by_cases c : a.least < b.least
    · have hm : max a.least b.least + (if a.least = b.least then (1 : Int) else 0) = b.least := by rw [if_neg (by omega)]; omega
      simp [r__shallow, b__shallow, T.enc, T.sh, T.least, e, e2, c, hm, fnRun, ownIn, mSeq, mIfS, outOf, outOfB, outOfL, mOp, mB, mCon, mVar, mMov, mRet, mRetN, mAsg, mCall, borL, afterB, goneB, mTup, mLst, froL, Sl.d, Sl.sh, Sl.lk, ops, RS.bind, mNext, clean, mNot, mAnd, mOr, mAndV, mOrV, mNotV, mDrop, mTru, truD, mInt, mDnew, addD, subD, intD2, M.intD, maxD, minD, fn1, fn2, cmpD, ltD, leD, gtD, geD, fdivD, modD, negD, mUnp, setAll, mAug, mAppend, mPop, mSetI, mFor, mSrc, srcF, rng1, enmF]
    · have hm : max a.least b.least + (if a.least = b.least then (1 : Int) else 0) = if a.least < b.least + 1 then b.least + 1 else a.least := by split <;> split <;> omega
      simp [r__shallow, b__shallow, T.enc, T.sh, T.least, e, e2, c, hm, fnRun, ownIn, mSeq, mIfS, outOf, outOfB, outOfL, mOp, mB, mCon, mVar, mMov, mRet, mRetN, mAsg, mCall, borL, afterB, goneB, mTup, mLst, froL, Sl.d, Sl.sh, Sl.lk, ops, RS.bind, mNext, clean, mNot, mAnd, mOr, mAndV, mOrV, mNotV, mDrop, mTru, truD, mInt, mDnew, addD, subD, intD2, M.intD, maxD, minD, fn1, fn2, cmpD, ltD, leD, gtD, geD, fdivD, modD, negD, mUnp, setAll, mAug, mAppend, mPop, mSetI, mFor, mSrc, srcF, rng1, enmF]
theorem run_sh (t : T) (h : t.dep < 90) : ∃ o, r_shallow [.fro t.enc] = .ok (.fro t.sh.enc) o := by
  obtain ⟨o, e⟩ := run__sh t 90 h
  refine ⟨[.fro t.enc], ?_⟩
  simp [r_shallow, b_shallow, e, fnRun, ownIn, mSeq, mIfS, outOf, outOfB, outOfL, mOp, mB, mCon, mVar, mMov, mRet, mRetN, mAsg, mCall, borL, afterB, goneB, mTup, mLst, froL, Sl.d, Sl.sh, Sl.lk, ops, RS.bind, mNext, clean, mNot, mAnd, mOr, mAndV, mOrV, mNotV, mDrop, mTru, truD, mInt, mDnew, addD, subD, intD2, M.intD, maxD, minD, fn1, fn2, cmpD, ltD, leD, gtD, geD, fdivD, modD, negD, mUnp, setAll, mAug, mAppend, mPop, mSetI, mFor, mSrc, srcF, rng1, enmF]
end K83

set_option Elab.async false
set_option linter.all false
set_option maxRecDepth 100000
set_option maxHeartbeats 1000000
namespace K83
open PySem PySem.Spec L2 M
theorem run_exch : ∀ (t : T) (n : Nat) (bs : List Int), t.dep < n → ∃ x y, r__law_exchanged n [.fro t.enc, .own (.lst (bs.map .int))] = .ok (.fro (t.exch bs).1.enc) [.fro t.enc, .own (.lst ((t.exch bs).2.map .int)), x, y]
  | .leaf s, n + 1, bs, h => by
    refine ⟨.non, .non, ?_⟩
    simp [r__law_exchanged, b__law_exchanged, T.enc, T.exch, fnRun, ownIn, mSeq, mIfS, outOf, outOfB, outOfL, mOp, mB, mCon, mVar, mMov, mRet, mRetN, mAsg, mCall, borL, afterB, goneB, mTup, mLst, froL, Sl.d, Sl.sh, Sl.lk, ops, RS.bind, mNext, clean, mNot, mAnd, mOr, mAndV, mOrV, mNotV, mDrop, mTru, truD, mInt, mDnew, addD, subD, intD2, M.intD, maxD, minD, fn1, fn2, cmpD, ltD, leD, gtD, geD, fdivD, modD, negD, mUnp, setAll, mAug, mAppend, mPop, mSetI, mFor, mSrc, srcF, rng1, enmF]
  | .neg t, n + 1, bs, h => by
    obtain ⟨x, y, e⟩ := run_exch t n bs (by simp only [T.dep] at h; omega)
    refine ⟨.fro (t.exch bs).1.enc, .non, ?_⟩
    simp [r__law_exchanged, b__law_exchanged, T.enc, T.exch, e, fnRun, ownIn, mSeq, mIfS, outOf, outOfB, outOfL, mOp, mB, mCon, mVar, mMov, mRet, mRetN, mAsg, mCall, borL, afterB, goneB, mTup, mLst, froL, Sl.d, Sl.sh, Sl.lk, ops, RS.bind, mNext, clean, mNot, mAnd, mOr, mAndV, mOrV, mNotV, mDrop, mTru, truD, mInt, mDnew, addD, subD, intD2, M.intD, maxD, minD, fn1, fn2, cmpD, ltD, leD, gtD, geD, fdivD, modD, negD, mUnp, setAll, mAug, mAppend, mPop, mSetI, mFor, mSrc, srcF, rng1, enmF]
  | .bin op a b, n + 1, bs, h => by
    obtain ⟨x, y, e⟩ := run_exch a n bs (by simp only [T.dep] at h; omega)
    obtain ⟨x2, y2, e2⟩ := run_exch b n (a.exch bs).2 (by simp only [T.dep] at h; omega)
    refine ⟨.fro (a.exch bs).1.enc, .fro (b.exch (a.exch bs).2).1.enc, ?_⟩
    generalize hq : (b.exch (a.exch bs).2).2 = q at *
    by_cases c : q = []
    · subst c
      simp [r__law_exchanged, b__law_exchanged, T.enc, T.exch, e, e2, hq, fnRun, ownIn, mSeq, mIfS, outOf, outOfB, outOfL, mOp, mB, mCon, mVar, mMov, mRet, mRetN, mAsg, mCall, borL, afterB, goneB, mTup, mLst, froL, Sl.d, Sl.sh, Sl.lk, ops, RS.bind, mNext, clean, mNot, mAnd, mOr, mAndV, mOrV, mNotV, mDrop, mTru, truD, mInt, mDnew, addD, subD, intD2, M.intD, maxD, minD, fn1, fn2, cmpD, ltD, leD, gtD, geD, fdivD, modD, negD, mUnp, setAll, mAug, mAppend, mPop, mSetI, mFor, mSrc, srcF, rng1, enmF]
    · obtain ⟨l, z, rfl⟩ : ∃ l z, q = l ++ [z] := ⟨q.dropLast, q.getLast c, (List.dropLast_concat_getLast c).symm⟩
      have hne : (List.map D.int l ++ [D.int z]).isEmpty = false := by cases l <;> rfl
      by_cases d : z.fmod 2 = 1
      · simp [r__law_exchanged, b__law_exchanged, T.enc, T.exch, e, e2, hq, d, hne, fnRun, ownIn, mSeq, mIfS, outOf, outOfB, outOfL, mOp, mB, mCon, mVar, mMov, mRet, mRetN, mAsg, mCall, borL, afterB, goneB, mTup, mLst, froL, Sl.d, Sl.sh, Sl.lk, ops, RS.bind, mNext, clean, mNot, mAnd, mOr, mAndV, mOrV, mNotV, mDrop, mTru, truD, mInt, mDnew, addD, subD, intD2, M.intD, maxD, minD, fn1, fn2, cmpD, ltD, leD, gtD, geD, fdivD, modD, negD, mUnp, setAll, mAug, mAppend, mPop, mSetI, mFor, mSrc, srcF, rng1, enmF]
      · simp [r__law_exchanged, b__law_exchanged, T.enc, T.exch, e, e2, hq, d, hne, fnRun, ownIn, mSeq, mIfS, outOf, outOfB, outOfL, mOp, mB, mCon, mVar, mMov, mRet, mRetN, mAsg, mCall, borL, afterB, goneB, mTup, mLst, froL, Sl.d, Sl.sh, Sl.lk, ops, RS.bind, mNext, clean, mNot, mAnd, mOr, mAndV, mOrV, mNotV, mDrop, mTru, truD, mInt, mDnew, addD, subD, intD2, M.intD, maxD, minD, fn1, fn2, cmpD, ltD, leD, gtD, geD, fdivD, modD, negD, mUnp, setAll, mAug, mAppend, mPop, mSetI, mFor, mSrc, srcF, rng1, enmF]
theorem words (o : Fin 3) : gdD tb_WORDS [.str (opS o)] = some (.fro (.str (wordS o))) := by
  match o with
  | 0 => rfl
  | 1 => rfl
  | 2 => rfl
theorem run_code : ∀ (t : T) (n : Nat) (c : List D), t.dep < n → c.length + t.size ≤ 16777216 → r__append_code n [.fro t.enc, .own (.lst c)] = .ok (.fro .non) [.fro t.enc, .own (.lst (c ++ t.code))]
  | .leaf s, n + 1, c, h, hl => by
    have hl2 : c.length < 16777216 := by simp only [T.size] at hl; omega
    by_cases h1 : s = "?"
    · have hc : (T.leaf s).code = [.tup [.str "const", .str "x"]] := by simp only [T.code, if_pos h1]
      have k1 : decide (s = "?") = true := decide_eq_true h1
      rw [hc]
      simp [r__append_code, b__append_code, T.enc, k1, hl2, fnRun, ownIn, mSeq, mIfS, outOf, outOfB, outOfL, mOp, mB, mCon, mVar, mMov, mRet, mRetN, mAsg, mCall, borL, afterB, goneB, mTup, mLst, froL, Sl.d, Sl.sh, Sl.lk, ops, RS.bind, mNext, clean, mNot, mAnd, mOr, mAndV, mOrV, mNotV, mDrop, mTru, truD, mInt, mDnew, addD, subD, intD2, M.intD, maxD, minD, fn1, fn2, cmpD, ltD, leD, gtD, geD, fdivD, modD, negD, mUnp, setAll, mAug, mAppend, mPop, mSetI, mFor, mSrc, srcF, rng1, enmF]
    · have k1 : decide (s = "?") = false := decide_eq_false h1
      by_cases h2 : s = "0"
      · have hc : (T.leaf s).code = [.tup [.str "const", .str s]] := by simp only [T.code, if_neg h1, if_pos (Or.inl h2)]
        have k2 : decide (s = "0") = true := decide_eq_true h2
        rw [hc]
        simp [r__append_code, b__append_code, T.enc, k1, k2, hl2, fnRun, ownIn, mSeq, mIfS, outOf, outOfB, outOfL, mOp, mB, mCon, mVar, mMov, mRet, mRetN, mAsg, mCall, borL, afterB, goneB, mTup, mLst, froL, Sl.d, Sl.sh, Sl.lk, ops, RS.bind, mNext, clean, mNot, mAnd, mOr, mAndV, mOrV, mNotV, mDrop, mTru, truD, mInt, mDnew, addD, subD, intD2, M.intD, maxD, minD, fn1, fn2, cmpD, ltD, leD, gtD, geD, fdivD, modD, negD, mUnp, setAll, mAug, mAppend, mPop, mSetI, mFor, mSrc, srcF, rng1, enmF]
      · have k2 : decide (s = "0") = false := decide_eq_false h2
        by_cases h3 : s = "1"
        · have hc : (T.leaf s).code = [.tup [.str "const", .str s]] := by simp only [T.code, if_neg h1, if_pos (Or.inr h3)]
          have k3 : decide (s = "1") = true := decide_eq_true h3
          rw [hc]
          simp [r__append_code, b__append_code, T.enc, k1, k2, k3, hl2, fnRun, ownIn, mSeq, mIfS, outOf, outOfB, outOfL, mOp, mB, mCon, mVar, mMov, mRet, mRetN, mAsg, mCall, borL, afterB, goneB, mTup, mLst, froL, Sl.d, Sl.sh, Sl.lk, ops, RS.bind, mNext, clean, mNot, mAnd, mOr, mAndV, mOrV, mNotV, mDrop, mTru, truD, mInt, mDnew, addD, subD, intD2, M.intD, maxD, minD, fn1, fn2, cmpD, ltD, leD, gtD, geD, fdivD, modD, negD, mUnp, setAll, mAug, mAppend, mPop, mSetI, mFor, mSrc, srcF, rng1, enmF]
        · have hc : (T.leaf s).code = [.tup [.str "wire", .str s]] := by simp only [T.code, if_neg h1, if_neg (fun z : s = "0" ∨ s = "1" => z.elim h2 h3)]
          have k3 : decide (s = "1") = false := decide_eq_false h3
          rw [hc]
          simp [r__append_code, b__append_code, T.enc, k1, k2, k3, hl2, fnRun, ownIn, mSeq, mIfS, outOf, outOfB, outOfL, mOp, mB, mCon, mVar, mMov, mRet, mRetN, mAsg, mCall, borL, afterB, goneB, mTup, mLst, froL, Sl.d, Sl.sh, Sl.lk, ops, RS.bind, mNext, clean, mNot, mAnd, mOr, mAndV, mOrV, mNotV, mDrop, mTru, truD, mInt, mDnew, addD, subD, intD2, M.intD, maxD, minD, fn1, fn2, cmpD, ltD, leD, gtD, geD, fdivD, modD, negD, mUnp, setAll, mAug, mAppend, mPop, mSetI, mFor, mSrc, srcF, rng1, enmF]
  | .neg t, n + 1, c, h, hl => by
    have e := run_code t n c (by simp only [T.dep] at h; omega) (by simp only [T.size] at hl; omega)
    have hl2 : c.length + t.code.length < 16777216 := by rw [T.code_len]; simp only [T.size] at hl; omega
    simp [r__append_code, b__append_code, T.enc, T.code, e, hl2, fnRun, ownIn, mSeq, mIfS, outOf, outOfB, outOfL, mOp, mB, mCon, mVar, mMov, mRet, mRetN, mAsg, mCall, borL, afterB, goneB, mTup, mLst, froL, Sl.d, Sl.sh, Sl.lk, ops, RS.bind, mNext, clean, mNot, mAnd, mOr, mAndV, mOrV, mNotV, mDrop, mTru, truD, mInt, mDnew, addD, subD, intD2, M.intD, maxD, minD, fn1, fn2, cmpD, ltD, leD, gtD, geD, fdivD, modD, negD, mUnp, setAll, mAug, mAppend, mPop, mSetI, mFor, mSrc, srcF, rng1, enmF]
  | .bin o a b, n + 1, c, h, hl => by
    have e := run_code a n c (by simp only [T.dep] at h; omega) (by simp only [T.size] at hl; omega)
    have e2 := run_code b n (c ++ a.code) (by simp only [T.dep] at h; omega) (by rw [List.length_append, T.code_len]; simp only [T.size] at hl; omega)
    have hl2 : c.length + (a.code.length + b.code.length) < 16777216 := by rw [T.code_len, T.code_len]; simp only [T.size] at hl; omega
    simp only [List.append_assoc] at e2
    simp [r__append_code, b__append_code, T.enc, T.code, e, e2, hl2, words, fnRun, ownIn, mSeq, mIfS, outOf, outOfB, outOfL, mOp, mB, mCon, mVar, mMov, mRet, mRetN, mAsg, mCall, borL, afterB, goneB, mTup, mLst, froL, Sl.d, Sl.sh, Sl.lk, ops, RS.bind, mNext, clean, mNot, mAnd, mOr, mAndV, mOrV, mNotV, mDrop, mTru, truD, mInt, mDnew, addD, subD, intD2, M.intD, maxD, minD, fn1, fn2, cmpD, ltD, leD, gtD, geD, fdivD, modD, negD, mUnp, setAll, mAug, mAppend, mPop, mSetI, mFor, mSrc, srcF, rng1, enmF]
theorem run_postfix (t : T) (h : t.dep < 90) (hl : t.size ≤ 16777216) : ∃ o, r_postfix [.fro t.enc] = .ok (.own (.lst t.code)) o := by
  have e := run_code t 90 [] h (by simpa using hl)
  refine ⟨[.fro t.enc, .non], ?_⟩
  simp at e
  simp [r_postfix, b_postfix, e, fnRun, ownIn, mSeq, mIfS, outOf, outOfB, outOfL, mOp, mB, mCon, mVar, mMov, mRet, mRetN, mAsg, mCall, borL, afterB, goneB, mTup, mLst, froL, Sl.d, Sl.sh, Sl.lk, ops, RS.bind, mNext, clean, mNot, mAnd, mOr, mAndV, mOrV, mNotV, mDrop, mTru, truD, mInt, mDnew, addD, subD, intD2, M.intD, maxD, minD, fn1, fn2, cmpD, ltD, leD, gtD, geD, fdivD, modD, negD, mUnp, setAll, mAug, mAppend, mPop, mSetI, mFor, mSrc, srcF, rng1, enmF]
end K83

set_option Elab.async false
set_option linter.all false
set_option maxRecDepth 100000
set_option maxHeartbeats 1000000
namespace K83
open PySem PySem.Spec L2 M
/-! ### the stack of the code -/
theorem ready_wire {s : Int} : ∃ o, r_is_ready [.fro (.str "wire"), .fro (.int s)] = .ok (.fro (.bl true)) o := by
  refine ⟨[.fro (.str "wire"), .fro (.int s)], ?_⟩
  have h1 : decide (("wire" : Str) = "keep") = false := by decide +kernel
  have h2 : decide (("wire" : Str) = "next") = false := by decide +kernel
  have h3 : decide (("wire" : Str) = "not") = false := by decide +kernel
  by_cases c : 2 ≤ s <;> simp [r_is_ready, b_is_ready, h1, h2, h3, c, fnRun, ownIn, mSeq, mIfS, outOf, outOfB, outOfL, mOp, mB, mCon, mVar, mMov, mRet, mRetN, mAsg, mCall, borL, afterB, goneB, mTup, mLst, froL, Sl.d, Sl.sh, Sl.lk, ops, RS.bind, mNext, clean, mNot, mAnd, mOr, mAndV, mOrV, mNotV, mDrop, mTru, truD, mInt, mDnew, addD, subD, intD2, M.intD, maxD, minD, fn1, fn2, cmpD, ltD, leD, gtD, geD, fdivD, modD, negD, mUnp, setAll, mAug, mAppend, mPop, mSetI, mFor, mSrc, srcF, rng1, enmF]
theorem ready_const {s : Int} : ∃ o, r_is_ready [.fro (.str "const"), .fro (.int s)] = .ok (.fro (.bl true)) o := by
  refine ⟨[.fro (.str "const"), .fro (.int s)], ?_⟩
  have h1 : decide (("const" : Str) = "keep") = false := by decide +kernel
  have h2 : decide (("const" : Str) = "next") = false := by decide +kernel
  have h3 : decide (("const" : Str) = "not") = false := by decide +kernel
  have h4 : decide (("const" : Str) = "wire") = false := by decide +kernel
  by_cases c : 2 ≤ s <;> simp [r_is_ready, b_is_ready, h1, h2, h3, h4, c, fnRun, ownIn, mSeq, mIfS, outOf, outOfB, outOfL, mOp, mB, mCon, mVar, mMov, mRet, mRetN, mAsg, mCall, borL, afterB, goneB, mTup, mLst, froL, Sl.d, Sl.sh, Sl.lk, ops, RS.bind, mNext, clean, mNot, mAnd, mOr, mAndV, mOrV, mNotV, mDrop, mTru, truD, mInt, mDnew, addD, subD, intD2, M.intD, maxD, minD, fn1, fn2, cmpD, ltD, leD, gtD, geD, fdivD, modD, negD, mUnp, setAll, mAug, mAppend, mPop, mSetI, mFor, mSrc, srcF, rng1, enmF]
theorem ready_not {s : Int} (h : 1 ≤ s) : ∃ o, r_is_ready [.fro (.str "not"), .fro (.int s)] = .ok (.fro (.bl true)) o := by
  refine ⟨[.fro (.str "not"), .fro (.int s)], ?_⟩
  have h1 : decide (("not" : Str) = "keep") = false := by decide +kernel
  have h2 : decide (("not" : Str) = "next") = false := by decide +kernel
  simp [r_is_ready, b_is_ready, h1, h2, h, fnRun, ownIn, mSeq, mIfS, outOf, outOfB, outOfL, mOp, mB, mCon, mVar, mMov, mRet, mRetN, mAsg, mCall, borL, afterB, goneB, mTup, mLst, froL, Sl.d, Sl.sh, Sl.lk, ops, RS.bind, mNext, clean, mNot, mAnd, mOr, mAndV, mOrV, mNotV, mDrop, mTru, truD, mInt, mDnew, addD, subD, intD2, M.intD, maxD, minD, fn1, fn2, cmpD, ltD, leD, gtD, geD, fdivD, modD, negD, mUnp, setAll, mAug, mAppend, mPop, mSetI, mFor, mSrc, srcF, rng1, enmF]
theorem ready_op {s : Int} (o : Fin 3) (h : 2 ≤ s) : ∃ x, r_is_ready [.fro (.str (wordS o)), .fro (.int s)] = .ok (.fro (.bl true)) x := by
  refine ⟨[.fro (.str (wordS o)), .fro (.int s)], ?_⟩
  have h1 : decide (wordS o = "keep") = false := by revert o; decide +kernel
  have h2 : decide (wordS o = "next") = false := by revert o; decide +kernel
  have h3 : decide (wordS o = "not") = false := by revert o; decide +kernel
  simp [r_is_ready, b_is_ready, h1, h2, h3, h, fnRun, ownIn, mSeq, mIfS, outOf, outOfB, outOfL, mOp, mB, mCon, mVar, mMov, mRet, mRetN, mAsg, mCall, borL, afterB, goneB, mTup, mLst, froL, Sl.d, Sl.sh, Sl.lk, ops, RS.bind, mNext, clean, mNot, mAnd, mOr, mAndV, mOrV, mNotV, mDrop, mTru, truD, mInt, mDnew, addD, subD, intD2, M.intD, maxD, minD, fn1, fn2, cmpD, ltD, leD, gtD, geD, fdivD, modD, negD, mUnp, setAll, mAug, mAppend, mPop, mSetI, mFor, mSrc, srcF, rng1, enmF]
theorem ready_next : ∃ o, r_is_ready [.fro (.str "next"), .fro (.int 1)] = .ok (.fro (.bl true)) o := by
  refine ⟨[.fro (.str "next"), .fro (.int 1)], ?_⟩
  have h1 : decide (("next" : Str) = "keep") = false := by decide +kernel
  simp [r_is_ready, b_is_ready, h1, fnRun, ownIn, mSeq, mIfS, outOf, outOfB, outOfL, mOp, mB, mCon, mVar, mMov, mRet, mRetN, mAsg, mCall, borL, afterB, goneB, mTup, mLst, froL, Sl.d, Sl.sh, Sl.lk, ops, RS.bind, mNext, clean, mNot, mAnd, mOr, mAndV, mOrV, mNotV, mDrop, mTru, truD, mInt, mDnew, addD, subD, intD2, M.intD, maxD, minD, fn1, fn2, cmpD, ltD, leD, gtD, geD, fdivD, modD, negD, mUnp, setAll, mAug, mAppend, mPop, mSetI, mFor, mSrc, srcF, rng1, enmF]
theorem grow_wire : gdD tb_GROWTH [.str "wire"] = some (.fro (.int 1)) := rfl
theorem grow_const : gdD tb_GROWTH [.str "const"] = some (.fro (.int 1)) := rfl
theorem grow_not : gdD tb_GROWTH [.str "not"] = some (.fro (.int 0)) := rfl
theorem grow_next : gdD tb_GROWTH [.str "next"] = some (.fro (.int (-1))) := rfl
theorem grow_op (o : Fin 3) : gdD tb_GROWTH [.str (wordS o)] = some (.fro (.int (-1))) := by
  match o with
  | 0 => rfl
  | 1 => rfl
  | 2 => rfl
/-- one instruction -/
theorem step {c x : Sl} {w : Str} {r : List D} {d s g : Int} (hr : ∃ o, r_is_ready [.fro (.str w), .fro (.int s)] = .ok (.fro (.bl true)) o) (hg : gdD tb_GROWTH [.str w] = some (.fro (.int g))) (hl : r.length ≤ 1) :
    l0_depth_of [c, .fro (.int d), .fro (.int s), x, .fro (.tup (.str w :: r))] = .nx [c, .fro (.int (if d < s + g then s + g else d)), .fro (.int (s + g)), x, .fro (.tup (.str w :: r))] := by
  obtain ⟨o, e⟩ := hr
  match r, hl with
  | [], _ => simp [l0_depth_of, e, hg, fnRun, ownIn, mSeq, mIfS, outOf, outOfB, outOfL, mOp, mB, mCon, mVar, mMov, mRet, mRetN, mAsg, mCall, borL, afterB, goneB, mTup, mLst, froL, Sl.d, Sl.sh, Sl.lk, ops, RS.bind, mNext, clean, mNot, mAnd, mOr, mAndV, mOrV, mNotV, mDrop, mTru, truD, mInt, mDnew, addD, subD, intD2, M.intD, maxD, minD, fn1, fn2, cmpD, ltD, leD, gtD, geD, fdivD, modD, negD, mUnp, setAll, mAug, mAppend, mPop, mSetI, mFor, mSrc, srcF, rng1, enmF]
  | [y], _ => simp [l0_depth_of, e, hg, fnRun, ownIn, mSeq, mIfS, outOf, outOfB, outOfL, mOp, mB, mCon, mVar, mMov, mRet, mRetN, mAsg, mCall, borL, afterB, goneB, mTup, mLst, froL, Sl.d, Sl.sh, Sl.lk, ops, RS.bind, mNext, clean, mNot, mAnd, mOr, mAndV, mOrV, mNotV, mDrop, mTru, truD, mInt, mDnew, addD, subD, intD2, M.intD, maxD, minD, fn1, fn2, cmpD, ltD, leD, gtD, geD, fdivD, modD, negD, mUnp, setAll, mAug, mAppend, mPop, mSetI, mFor, mSrc, srcF, rng1, enmF]
theorem step1 {c x y : Sl} {i : Int} {w : Str} {r : List D} {d s g : Int} (hr : ∃ o, r_is_ready [.fro (.str w), .fro (.int s)] = .ok (.fro (.bl true)) o) (hg : gdD tb_GROWTH [.str w] = some (.fro (.int g))) (hl : r.length ≤ 1) :
    Goes (tgT [3, 4]) l0_depth_of [.tup [.int i, .tup (.str w :: r)]] [c, .fro (.int d), .fro (.int s), x, y] [c, .fro (.int (if d < s + g then s + g else d)), .fro (.int (s + g)), .fro (.int i), .fro (.tup (.str w :: r))] :=
  .cons (e1 := [c, .fro (.int d), .fro (.int s), .fro (.int i), .fro (.tup (.str w :: r))]) rfl (step hr hg hl) .nil
theorem enum1 {L : List D} {c : D} (h : Enum L [c]) : ∃ i : Int, L = [.tup [.int i, c]] := by
  match L, h with
  | [d], ⟨⟨i, e⟩, _⟩ => exact ⟨i, by rw [e]⟩
theorem run_depth : ∀ (t : T) (L : List D) (c x y : Sl) (d s : Int), Enum L t.code → 0 ≤ s → ∃ x' y', Goes (tgT [3, 4]) l0_depth_of L [c, .fro (.int d), .fro (.int s), x, y] [c, .fro (.int (max d (s + t.need))), .fro (.int (s + 1)), x', y']
  | .leaf z, L, c, x, y, d, s, h, hs => by
    have hm : max d (s + 1) = if d < s + 1 then s + 1 else d := by split <;> omega
    simp only [T.code] at h
    simp only [T.need, hm]
    split at h
    · obtain ⟨i, rfl⟩ := enum1 h
      exact ⟨_, _, step1 ready_const grow_const (Nat.le_refl 1)⟩
    · split at h
      · obtain ⟨i, rfl⟩ := enum1 h
        exact ⟨_, _, step1 ready_const grow_const (Nat.le_refl 1)⟩
      · obtain ⟨i, rfl⟩ := enum1 h
        exact ⟨_, _, step1 ready_wire grow_wire (Nat.le_refl 1)⟩
  | .neg t, L, c, x, y, d, s, h, hs => by
    simp only [T.code] at h
    obtain ⟨L1, L2, rfl, h1, h2⟩ := h.split
    obtain ⟨x1, y1, g1⟩ := run_depth t L1 c x y d s h1 hs
    obtain ⟨i, rfl⟩ := enum1 h2
    have hp := t.need_pos
    have g2 := step1 (c := c) (x := x1) (y := y1) (i := i) (r := []) (d := max d (s + t.need)) (ready_not (s := s + 1) (by omega)) grow_not (Nat.zero_le 1)
    have hm : (if max d (s + t.need) < s + 1 + 0 then s + 1 + 0 else max d (s + t.need)) = max d (s + t.need) := by split <;> omega
    rw [hm, Int.add_zero] at g2
    exact ⟨_, _, g1.append g2⟩
  | .bin o a b, L, c, x, y, d, s, h, hs => by
    simp only [T.code] at h
    obtain ⟨L1, L2, rfl, h1, h2⟩ := h.split
    obtain ⟨L3, L4, rfl, h3, h4⟩ := h2.split
    obtain ⟨x1, y1, g1⟩ := run_depth a L1 c x y d s h1 hs
    obtain ⟨x2, y2, g2⟩ := run_depth b L3 c x1 y1 (max d (s + a.need)) (s + 1) h3 (by omega)
    obtain ⟨i, rfl⟩ := enum1 h4
    have hp := b.need_pos
    have g3 := step1 (c := c) (x := x2) (y := y2) (i := i) (r := []) (d := max (max d (s + a.need)) (s + 1 + b.need)) (ready_op (s := s + 1 + 1) o (by omega)) (grow_op o) (Nat.zero_le 1)
    have hm : (if max (max d (s + a.need)) (s + 1 + b.need) < s + 1 + 1 + -1 then s + 1 + 1 + -1 else max (max d (s + a.need)) (s + 1 + b.need)) = max d (s + max a.need (b.need + 1)) := by split <;> omega
    rw [hm, show s + 1 + 1 + -1 = s + 1 by omega] at g3
    exact ⟨_, _, g1.append (g2.append g3)⟩
theorem run_depth_of (t : T) : ∃ o, r_depth_of [.fro (.lst (t.code ++ [.tup [.str "next", .str "p"]]))] = .ok (.fro (.int t.need)) o := by
  have h := enum_enumD (t.code ++ [.tup [.str "next", .str "p"]])
  obtain ⟨L1, L2, e, h1, h2⟩ := h.split
  obtain ⟨x1, y1, g1⟩ := run_depth t L1 (.fro (.lst (t.code ++ [.tup [.str "next", .str "p"]]))) .non .non 0 0 h1 (Int.le_refl 0)
  obtain ⟨i, rfl⟩ := enum1 h2
  have hp := t.need_pos
  have g2 := step1 (c := .fro (.lst (t.code ++ [.tup [.str "next", .str "p"]]))) (x := x1) (y := y1) (i := i) (r := [.str "p"]) (d := max 0 (0 + t.need)) ready_next grow_next (Nat.le_refl 1)
  have g := (g1.append g2).run
  rw [← e] at g
  have hm : (if max 0 (0 + t.need) < (1 : Int) + -1 then (1 : Int) + -1 else max 0 (0 + t.need)) = t.need := by split <;> omega
  rw [hm] at g
  refine ⟨[.fro (.lst (t.code ++ [.tup [.str "next", .str "p"]])), .fro (.int t.need), .fro (.int 0), .fro (.int i), .fro (.tup [.str "next", .str "p"])], ?_⟩
  simp at g
  simp [r_depth_of, b_depth_of, g, fnRun, ownIn, mSeq, mIfS, outOf, outOfB, outOfL, mOp, mB, mCon, mVar, mMov, mRet, mRetN, mAsg, mCall, borL, afterB, goneB, mTup, mLst, froL, Sl.d, Sl.sh, Sl.lk, ops, RS.bind, mNext, clean, mNot, mAnd, mOr, mAndV, mOrV, mNotV, mDrop, mTru, truD, mInt, mDnew, addD, subD, intD2, M.intD, maxD, minD, fn1, fn2, cmpD, ltD, leD, gtD, geD, fdivD, modD, negD, mUnp, setAll, mAug, mAppend, mPop, mSetI, mFor, mSrc, srcF, rng1, enmF]
theorem run_dright (t : T) (due : Int) (h : t.dep < 90) (hl : t.size ≤ 10000) (hd : due = t.need) : ∃ o, r__law_depth_right [.fro t.enc, .fro (.int due)] = .ok (.fro (.bl true)) o := by
  obtain ⟨o, e⟩ := run_postfix t h (by omega)
  obtain ⟨o2, e2⟩ := run_depth_of t
  subst hd
  have hl2 : t.code.length + 1 ≤ 16777216 := by rw [T.code_len]; omega
  refine ⟨[.fro t.enc, .fro (.int t.need), .fro (.int t.need)], ?_⟩
  simp [r__law_depth_right, b__law_depth_right, e, e2, hl2, fnRun, ownIn, mSeq, mIfS, outOf, outOfB, outOfL, mOp, mB, mCon, mVar, mMov, mRet, mRetN, mAsg, mCall, borL, afterB, goneB, mTup, mLst, froL, Sl.d, Sl.sh, Sl.lk, ops, RS.bind, mNext, clean, mNot, mAnd, mOr, mAndV, mOrV, mNotV, mDrop, mTru, truD, mInt, mDnew, addD, subD, intD2, M.intD, maxD, minD, fn1, fn2, cmpD, ltD, leD, gtD, geD, fdivD, modD, negD, mUnp, setAll, mAug, mAppend, mPop, mSetI, mFor, mSrc, srcF, rng1, enmF]
end K83

set_option Elab.async false
set_option linter.all false
set_option maxRecDepth 100000
set_option maxHeartbeats 1000000
namespace M
open PySem PySem.Spec L2
/-! ### dicts -/
theorem dget_put {kds : List (Key × D)} {k k' : Key} {d : D} : dget (dput kds k d) k' = if k' = k then some d else dget kds k' := by
  unfold dput
  split
  · rename_i h
    induction kds with
    | nil => simp at h
    | cons p r ih =>
      obtain ⟨a, b⟩ := p
      by_cases c : a = k
      · subst c
        by_cases e : k' = a
        · subst e
          simp [dget]
        · have e' : ¬ a = k' := fun z => e z.symm
          simp only [dget, List.map_cons, if_true, List.find?_cons, decide_eq_false e', if_neg e]
          clear ih h
          induction r with
          | nil => rfl
          | cons q r ih2 =>
            obtain ⟨x, y⟩ := q
            by_cases f : x = a
            · subst f
              simp only [List.map_cons, if_true, List.find?_cons, decide_eq_false e']
              exact ih2
            · by_cases g : x = k'
              · subst g
                simp only [List.map_cons, if_neg f, List.find?_cons, decide_true]
              · simp only [List.map_cons, if_neg f, List.find?_cons, decide_eq_false g]
                exact ih2
      · have h2 : (r.any fun kv => decide (kv.1 = k)) = true := by simpa [c] using h
        have ih := ih h2
        by_cases e : a = k'
        · subst e
          simp [dget, c]
        · simp only [dget, List.map_cons, if_neg c, List.find?_cons, decide_eq_false e]
          exact ih
  · rename_i h
    induction kds with
    | nil =>
      by_cases c : k' = k
      · subst c; simp [dget]
      · have c' : ¬ k = k' := fun z => c z.symm
        simp [dget, c, c']
    | cons p r ih =>
      obtain ⟨a, b⟩ := p
      have h2 : ¬ a = k ∧ ¬ (r.any fun kv => decide (kv.1 = k)) = true := by
        simp at h
        simpa using h
      have ih := ih h2.2
      by_cases e : a = k'
      · subst e
        simp [dget, h2.1]
      · simp only [dget, List.cons_append, List.find?_cons, decide_eq_false e]
        exact ih
theorem dput_len {kds : List (Key × D)} {k : Key} {d : D} : (dput kds k d).length ≤ kds.length + 1 := by
  unfold dput
  split <;> simp
/-! ### enumerate by places -/
def enF : Nat → List D → List D
  | _, [] => []
  | j, d :: r => .tup [.int (j : Int), d] :: enF (j + 1) r
theorem enF_get : ∀ (ds : List D) (j i : Nat), (enF j ds)[i]? = ds[i]?.map fun d => .tup [.int ((j + i : Nat) : Int), d]
  | [], j, i => by simp [enF]
  | d :: r, j, 0 => by simp [enF]
  | d :: r, j, i + 1 => by
    simp only [enF, List.getElem?_cons_succ, enF_get r (j + 1) i]
    rw [show j + 1 + i = j + (i + 1) by omega]
theorem enumD_enF (ds : List D) : enumD ds = enF 0 ds := by
  refine List.ext_getElem? fun i => ?_
  rw [enF_get]
  simp only [enumD, List.getElem?_map, List.getD_eq_getElem?_getD, Nat.zero_add]
  by_cases h : i < ds.length
  · simp [List.getElem?_eq_getElem h, List.getElem?_range h]
  · have h2 : ds.length ≤ i := by omega
    simp [List.getElem?_eq_none h2, List.getElem?_eq_none (show (List.range ds.length).length ≤ i by simpa using h2)]
/-! ### subscripts -/
theorem ixN_nat' {n j : Nat} (h : j < n) : ixN n (j : Int) = some j := by
  unfold ixN
  rw [if_pos (by omega), if_pos (by omega)]
  simp
theorem ix_lst {ds : List D} {j : Nat} {d : D} (h : ds[j]? = some d) : ixD [.lst ds, .int (j : Int)] = some (.fro d) := by
  have hl : j < ds.length := by
    by_cases c : j < ds.length
    · exact c
    · rw [List.getElem?_eq_none (by omega)] at h; cases h
  simp only [ixD, atI, ixN_nat' hl, Option.bind_some, h, Option.map_some]
theorem fmod_nat (x : Int) {n : Nat} (h : 0 < n) : ∃ j : Nat, j < n ∧ x.fmod (n : Int) = (j : Int) := by
  have h1 : 0 ≤ x.fmod (n : Int) := Int.fmod_nonneg_of_pos x (by omega)
  have h2 : x.fmod (n : Int) < n := Int.fmod_lt_of_pos x (by omega)
  exact ⟨(x.fmod n).toNat, by omega, by omega⟩
theorem ix_mod {ds : List D} (x : Int) (h : 0 < ds.length) : ∃ d, d ∈ ds ∧ ixD [.lst ds, .int (x.fmod (ds.length : Int))] = some (.fro d) := by
  obtain ⟨j, hj, e⟩ := fmod_nat x h
  exact ⟨ds[j], List.getElem_mem hj, by rw [e]; exact ix_lst (List.getElem?_eq_getElem hj)⟩
theorem sign3 (x : Int) : ∃ o : Fin 3, ixD [.str "&^|", .int (x.fmod 3)] = some (.fro (.str (opS o))) := by
  obtain ⟨j, hj, e⟩ := fmod_nat x (n := 3) (by omega)
  rw [show x.fmod 3 = (j : Int) from e]
  match j, hj with
  | 0, _ => exact ⟨0, rfl⟩
  | 1, _ => exact ⟨1, rfl⟩
  | 2, _ => exact ⟨2, rfl⟩
theorem val3 (x : Int) : ∃ o : Fin 3, ixD [.str "01x", .int (x.fmod 3)] = some (.fro (.str (vS o))) := by
  obtain ⟨j, hj, e⟩ := fmod_nat x (n := 3) (by omega)
  rw [show x.fmod 3 = (j : Int) from e]
  match j, hj with
  | 0, _ => exact ⟨0, rfl⟩
  | 1, _ => exact ⟨1, rfl⟩
  | 2, _ => exact ⟨2, rfl⟩
/-! ### comprehensions that change nothing -/
theorem lc_map {j : Nat} {me : En → RS Sl} {f : D → D} : ∀ (ds : List D) (e : En) (acc : List D), e.set j .non = e → (∀ d ∈ ds, me (e.set j (.fro d)) = .ok (.fro (f d)) (e.set j (.fro d))) → acc.length + ds.length ≤ 16777216 →
    lcL (tgN j) mYes me [j] ds e acc = .ok (.own (.lst (acc ++ ds.map f))) e
  | [], e, acc, _, _, _ => by simp [lcL]
  | d :: r, e, acc, he, h, hl => by
    have h1 := h d List.mem_cons_self
    simp only [List.length_cons] at hl
    have ih := lc_map (j := j) (me := me) (f := f) r e (acc ++ [f d]) he (fun x hx => h x (List.mem_cons_of_mem _ hx)) (by simp; omega)
    have hw : wipeE (e.set j (.fro d)) [j] = e := by
      simp only [wipeE, List.set_set, he]
    unfold lcL
    simp only [tgN, mYes, RS.bindN, h1, Sl.sh]
    rw [if_pos (by omega), hw, ih]
    simp
end M

set_option Elab.async false
set_option linter.all false
set_option maxRecDepth 100000
set_option maxHeartbeats 2000000
namespace K83
open PySem PySem.Spec L2 M
/-! ### the value -/
theorem tb_and (a b : Fin 3) : gdD tb_AND [.str (vS a ++ vS b)] = some (.fro (.str (vS (opF 0 a b)))) := by
  match a, b with
  | 0, 0 => rfl
  | 0, 1 => rfl
  | 0, 2 => rfl
  | 1, 0 => rfl
  | 1, 1 => rfl
  | 1, 2 => rfl
  | 2, 0 => rfl
  | 2, 1 => rfl
  | 2, 2 => rfl
theorem tb_xor (a b : Fin 3) : gdD tb_XOR [.str (vS a ++ vS b)] = some (.fro (.str (vS (opF 1 a b)))) := by
  match a, b with
  | 0, 0 => rfl
  | 0, 1 => rfl
  | 0, 2 => rfl
  | 1, 0 => rfl
  | 1, 1 => rfl
  | 1, 2 => rfl
  | 2, 0 => rfl
  | 2, 1 => rfl
  | 2, 2 => rfl
theorem tb_or (a b : Fin 3) : gdD tb_OR [.str (vS a ++ vS b)] = some (.fro (.str (vS (opF 2 a b)))) := by
  match a, b with
  | 0, 0 => rfl
  | 0, 1 => rfl
  | 0, 2 => rfl
  | 1, 0 => rfl
  | 1, 1 => rfl
  | 1, 2 => rfl
  | 2, 0 => rfl
  | 2, 1 => rfl
  | 2, 2 => rfl
theorem tb_not (a : Fin 3) : gdD tb_NOT [.str (vS a)] = some (.fro (.str (vS (notF a)))) := by
  match a with
  | 0 => rfl
  | 1 => rfl
  | 2 => rfl
def Signs (P : Str → Prop) (g : Str → Fin 3) (kds : List (Key × D)) : Prop := ∀ s, P s → dget kds (.inr s) = some (.str (vS (g s)))
theorem run_value {P : Str → Prop} {g : Str → Fin 3} {kds : List (Key × D)} (hs : Signs P g kds) : ∀ (t : T) (n : Nat), t.dep < n → t.lv P → ∃ o, r_value_of n [.fro t.enc, .ro (.dic kds)] = .ok (.fro (.str (vS (t.val g)))) o
  | .leaf s, n + 1, h, hl => by
    refine ⟨[.fro (.str s), .ro (.dic kds), .non, .non], ?_⟩
    by_cases h0 : s = "0"
    · have k : decide (s = "0") = true := decide_eq_true h0
      have hv : (T.leaf s).val g = 0 := by simp only [T.val, if_pos h0]
      rw [hv, show vS 0 = s from h0.symm]
      simp [r_value_of, b_value_of, T.enc, k, fnRun, ownIn, mSeq, mIfS, outOf, outOfB, outOfL, mOp, mB, mCon, mVar, mMov, mRet, mRetN, mAsg, mCall, borL, afterB, goneB, mTup, mLst, froL, Sl.d, Sl.sh, Sl.lk, ops, RS.bind, mNext, clean, mNot, mAnd, mOr, mAndV, mOrV, mNotV, mDrop, mTru, truD, mInt, mDnew, addD, subD, intD2, M.intD, maxD, minD, fn1, fn2, cmpD, ltD, leD, gtD, geD, fdivD, modD, negD, mUnp, setAll, mAug, mAppend, mPop, mSetI, mFor, mSrc, srcF, rng1, enmF]
    · have k0 : decide (s = "0") = false := decide_eq_false h0
      by_cases h1 : s = "1"
      · have k : decide (s = "1") = true := decide_eq_true h1
        have hv : (T.leaf s).val g = 1 := by simp only [T.val, if_neg h0, if_pos h1]
        rw [hv, show vS 1 = s from h1.symm]
        simp [r_value_of, b_value_of, T.enc, k, k0, fnRun, ownIn, mSeq, mIfS, outOf, outOfB, outOfL, mOp, mB, mCon, mVar, mMov, mRet, mRetN, mAsg, mCall, borL, afterB, goneB, mTup, mLst, froL, Sl.d, Sl.sh, Sl.lk, ops, RS.bind, mNext, clean, mNot, mAnd, mOr, mAndV, mOrV, mNotV, mDrop, mTru, truD, mInt, mDnew, addD, subD, intD2, M.intD, maxD, minD, fn1, fn2, cmpD, ltD, leD, gtD, geD, fdivD, modD, negD, mUnp, setAll, mAug, mAppend, mPop, mSetI, mFor, mSrc, srcF, rng1, enmF]
      · have k1 : decide (s = "1") = false := decide_eq_false h1
        by_cases h2 : s = "?"
        · have k : decide (s = "?") = true := decide_eq_true h2
          have hv : (T.leaf s).val g = 2 := by simp only [T.val, if_neg h0, if_neg h1, if_pos h2]
          rw [hv]
          simp [r_value_of, b_value_of, T.enc, k, k0, k1, vS, fnRun, ownIn, mSeq, mIfS, outOf, outOfB, outOfL, mOp, mB, mCon, mVar, mMov, mRet, mRetN, mAsg, mCall, borL, afterB, goneB, mTup, mLst, froL, Sl.d, Sl.sh, Sl.lk, ops, RS.bind, mNext, clean, mNot, mAnd, mOr, mAndV, mOrV, mNotV, mDrop, mTru, truD, mInt, mDnew, addD, subD, intD2, M.intD, maxD, minD, fn1, fn2, cmpD, ltD, leD, gtD, geD, fdivD, modD, negD, mUnp, setAll, mAug, mAppend, mPop, mSetI, mFor, mSrc, srcF, rng1, enmF]
        · have k : decide (s = "?") = false := decide_eq_false h2
          have hv : (T.leaf s).val g = g s := by simp only [T.val, if_neg h0, if_neg h1, if_neg h2]
          have hp : P s := by
            rcases hl with z | z | z | z
            · exact absurd z h0
            · exact absurd z h1
            · exact absurd z h2
            · exact z
          have hx : ixD [.dic kds, .str s] = some (.fro (.str (vS (g s)))) := by
            simp only [ixD, keyD, Option.bind_some, hs s hp, Option.map_some]
          rw [hv]
          simp [r_value_of, b_value_of, T.enc, k, k0, k1, hx, fnRun, ownIn, mSeq, mIfS, outOf, outOfB, outOfL, mOp, mB, mCon, mVar, mMov, mRet, mRetN, mAsg, mCall, borL, afterB, goneB, mTup, mLst, froL, Sl.d, Sl.sh, Sl.lk, ops, RS.bind, mNext, clean, mNot, mAnd, mOr, mAndV, mOrV, mNotV, mDrop, mTru, truD, mInt, mDnew, addD, subD, intD2, M.intD, maxD, minD, fn1, fn2, cmpD, ltD, leD, gtD, geD, fdivD, modD, negD, mUnp, setAll, mAug, mAppend, mPop, mSetI, mFor, mSrc, srcF, rng1, enmF]
  | .neg t, n + 1, h, hl => by
    obtain ⟨o, e⟩ := run_value hs t n (by simp only [T.dep] at h; omega) hl
    refine ⟨[.fro (T.neg t).enc, .ro (.dic kds), .fro (.str (vS (t.val g))), .non], ?_⟩
    simp [r_value_of, b_value_of, T.enc, T.val, e, tb_not, fnRun, ownIn, mSeq, mIfS, outOf, outOfB, outOfL, mOp, mB, mCon, mVar, mMov, mRet, mRetN, mAsg, mCall, borL, afterB, goneB, mTup, mLst, froL, Sl.d, Sl.sh, Sl.lk, ops, RS.bind, mNext, clean, mNot, mAnd, mOr, mAndV, mOrV, mNotV, mDrop, mTru, truD, mInt, mDnew, addD, subD, intD2, M.intD, maxD, minD, fn1, fn2, cmpD, ltD, leD, gtD, geD, fdivD, modD, negD, mUnp, setAll, mAug, mAppend, mPop, mSetI, mFor, mSrc, srcF, rng1, enmF]
  | .bin o a b, n + 1, h, hl => by
    obtain ⟨o1, e1⟩ := run_value hs a n (by simp only [T.dep] at h; omega) hl.1
    obtain ⟨o2, e2⟩ := run_value hs b n (by simp only [T.dep] at h; omega) hl.2
    refine ⟨[.fro (T.bin o a b).enc, .ro (.dic kds), .fro (.str (vS (a.val g))), .fro (.str (vS (a.val g) ++ vS (b.val g)))], ?_⟩
    have c1 : decide (opS 1 = "&") = false := by decide +kernel
    have c2 : decide (opS 1 = "|") = false := by decide +kernel
    have c3 : decide (opS 2 = "&") = false := by decide +kernel
    have c4 : decide (opS 0 = "&") = true := by decide +kernel
    have c5 : decide (opS 2 = "|") = true := by decide +kernel
    match o with
    | 0 => simp [r_value_of, b_value_of, T.enc, T.val, e1, e2, vS_len, tb_and, c4, fnRun, ownIn, mSeq, mIfS, outOf, outOfB, outOfL, mOp, mB, mCon, mVar, mMov, mRet, mRetN, mAsg, mCall, borL, afterB, goneB, mTup, mLst, froL, Sl.d, Sl.sh, Sl.lk, ops, RS.bind, mNext, clean, mNot, mAnd, mOr, mAndV, mOrV, mNotV, mDrop, mTru, truD, mInt, mDnew, addD, subD, intD2, M.intD, maxD, minD, fn1, fn2, cmpD, ltD, leD, gtD, geD, fdivD, modD, negD, mUnp, setAll, mAug, mAppend, mPop, mSetI, mFor, mSrc, srcF, rng1, enmF]
    | 1 => simp [r_value_of, b_value_of, T.enc, T.val, e1, e2, vS_len, tb_xor, c1, c2, fnRun, ownIn, mSeq, mIfS, outOf, outOfB, outOfL, mOp, mB, mCon, mVar, mMov, mRet, mRetN, mAsg, mCall, borL, afterB, goneB, mTup, mLst, froL, Sl.d, Sl.sh, Sl.lk, ops, RS.bind, mNext, clean, mNot, mAnd, mOr, mAndV, mOrV, mNotV, mDrop, mTru, truD, mInt, mDnew, addD, subD, intD2, M.intD, maxD, minD, fn1, fn2, cmpD, ltD, leD, gtD, geD, fdivD, modD, negD, mUnp, setAll, mAug, mAppend, mPop, mSetI, mFor, mSrc, srcF, rng1, enmF]
    | 2 => simp [r_value_of, b_value_of, T.enc, T.val, e1, e2, vS_len, tb_or, c3, c5, fnRun, ownIn, mSeq, mIfS, outOf, outOfB, outOfL, mOp, mB, mCon, mVar, mMov, mRet, mRetN, mAsg, mCall, borL, afterB, goneB, mTup, mLst, froL, Sl.d, Sl.sh, Sl.lk, ops, RS.bind, mNext, clean, mNot, mAnd, mOr, mAndV, mOrV, mNotV, mDrop, mTru, truD, mInt, mDnew, addD, subD, intD2, M.intD, maxD, minD, fn1, fn2, cmpD, ltD, leD, gtD, geD, fdivD, modD, negD, mUnp, setAll, mAug, mAppend, mPop, mSetI, mFor, mSrc, srcF, rng1, enmF]
/-! ### a tree is right -/
structure Fine (P : Str → Prop) (t : T) : Prop where
  dep : t.dep < 90
  size : t.size ≤ 10000
  lv : t.lv P
theorem l0_run {t : T} {nm : Sl} {ns : List Int} {b0 o0 : Sl} (h : t.dep < 90) (hz : t.size ≤ 10000) (hn : ns.length ≤ 1000) (k : Int) (hk : k = 0 ∨ k = 1) :
    ∃ b o, l0__law_tree_right [.fro t.enc, nm, .fro (.lst (ns.map .int)), .fro t.sh.enc, .fro (.int t.least), .fro (.int k), b0, o0, .non, .non, .non] =
      .nx [.fro t.enc, nm, .fro (.lst (ns.map .int)), .fro t.sh.enc, .fro (.int t.least), .fro (.int k), b, o, .non, .non, .non] := by
  obtain ⟨bs, hbs⟩ : ∃ bs : List Int, (ns.map fun n => n.fdiv (1 + k)) = bs := ⟨_, rfl⟩
  have hlc : lcL (tgN 10) mYes e0__law_tree_right [10] (ns.map .int) [.fro t.enc, nm, .fro (.lst (ns.map .int)), .fro t.sh.enc, .fro (.int t.least), .fro (.int k), b0, o0, .non, .non, .non] [] = .ok (.own (.lst (bs.map .int))) [.fro t.enc, nm, .fro (.lst (ns.map .int)), .fro t.sh.enc, .fro (.int t.least), .fro (.int k), b0, o0, .non, .non, .non] := by
    rw [lc_map (f := fun d => match d with | .int n => .int (n.fdiv (1 + k)) | d => d) (ns.map .int) _ [] rfl ?_ (by simp; omega)]
    · rw [List.nil_append, List.map_map, ← hbs, List.map_map]
      rfl
    · intro d hd
      obtain ⟨n, _, rfl⟩ := List.mem_map.mp hd
      rcases hk with rfl | rfl
      · simp [e0__law_tree_right, fnRun, ownIn, mSeq, mIfS, outOf, outOfB, outOfL, mOp, mB, mCon, mVar, mMov, mRet, mRetN, mAsg, mCall, borL, afterB, goneB, mTup, mLst, froL, Sl.d, Sl.sh, Sl.lk, ops, RS.bind, mNext, clean, mNot, mAnd, mOr, mAndV, mOrV, mNotV, mDrop, mTru, truD, mInt, mDnew, addD, subD, intD2, M.intD, maxD, minD, fn1, fn2, cmpD, ltD, leD, gtD, geD, fdivD, modD, negD, mUnp, setAll, mAug, mAppend, mPop, mSetI, mFor, mSrc, srcF, rng1, enmF]
      · simp [e0__law_tree_right, fnRun, ownIn, mSeq, mIfS, outOf, outOfB, outOfL, mOp, mB, mCon, mVar, mMov, mRet, mRetN, mAsg, mCall, borL, afterB, goneB, mTup, mLst, froL, Sl.d, Sl.sh, Sl.lk, ops, RS.bind, mNext, clean, mNot, mAnd, mOr, mAndV, mOrV, mNotV, mDrop, mTru, truD, mInt, mDnew, addD, subD, intD2, M.intD, maxD, minD, fn1, fn2, cmpD, ltD, leD, gtD, geD, fdivD, modD, negD, mUnp, setAll, mAug, mAppend, mPop, mSetI, mFor, mSrc, srcF, rng1, enmF]
  obtain ⟨x, y, e1⟩ := run_exch t 90 bs h
  obtain ⟨f1, f2, f3⟩ := t.exch_facts bs
  generalize hu : (t.exch bs).1 = u at *
  have hud : u.dep < 90 := by omega
  obtain ⟨o2, e2⟩ := run_need u 90 hud
  obtain ⟨o3, e3⟩ := run_dright u u.need hud (by omega) rfl
  obtain ⟨o4, e4⟩ := run_sh u hud
  obtain ⟨o5, e5⟩ := run_dright u.sh t.least (by rw [T.dep_sh]; exact hud) (by rw [T.size_sh]; omega) (by rw [T.need_sh, f1])
  have hle := u.least_le
  have hlt : ¬ u.need < t.least := by omega
  refine ⟨.own (.lst ((t.exch bs).2.map .int)), .fro u.enc, ?_⟩
  simp [l0__law_tree_right, mLc, wipeE, hlc, e1, e2, e3, e4, e5, hlt, fnRun, ownIn, mSeq, mIfS, outOf, outOfB, outOfL, mOp, mB, mCon, mVar, mMov, mRet, mRetN, mAsg, mCall, borL, afterB, goneB, mTup, mLst, froL, Sl.d, Sl.sh, Sl.lk, ops, RS.bind, mNext, clean, mNot, mAnd, mOr, mAndV, mOrV, mNotV, mDrop, mTru, truD, mInt, mDnew, addD, subD, intD2, M.intD, maxD, minD, fn1, fn2, cmpD, ltD, leD, gtD, geD, fdivD, modD, negD, mUnp, setAll, mAug, mAppend, mPop, mSetI, mFor, mSrc, srcF, rng1, enmF]
end K83

set_option Elab.async false
set_option linter.all false
set_option maxRecDepth 100000
set_option maxHeartbeats 2000000
namespace K83
open PySem PySem.Spec L2 M
theorem ix_ints {ns : List Int} {j : Nat} (h : j < ns.length) : ixD [.lst (ns.map .int), .int (j : Int)] = some (.fro (.int ns[j])) := ix_lst (by rw [List.getElem?_map, List.getElem?_eq_getElem h]; rfl)
theorem l1_run {a0 a1 a3 a4 b o z : Sl} {ns : List Int} {kds : List (Key × D)} {s : Str} {j : Nat} (hj : j < ns.length) (hk : kds.length < 16777216) :
    ∃ v : Fin 3, l1__law_tree_right [a0, a1, .fro (.lst (ns.map .int)), a3, a4, .fro (.int (j : Int)), b, o, .own (.dic kds), .fro (.str s), z] =
      .nx [a0, a1, .fro (.lst (ns.map .int)), a3, a4, .fro (.int (j : Int)), b, o, .own (.dic (dput kds (.inr s) (.str (vS v)))), .fro (.str s), z] := by
  obtain ⟨v, hv⟩ := val3 ns[j]
  refine ⟨v, ?_⟩
  simp [l1__law_tree_right, ix_ints hj, hv, hk, keyD, fnRun, ownIn, mSeq, mIfS, outOf, outOfB, outOfL, mOp, mB, mCon, mVar, mMov, mRet, mRetN, mAsg, mCall, borL, afterB, goneB, mTup, mLst, froL, Sl.d, Sl.sh, Sl.lk, ops, RS.bind, mNext, clean, mNot, mAnd, mOr, mAndV, mOrV, mNotV, mDrop, mTru, truD, mInt, mDnew, addD, subD, intD2, M.intD, maxD, minD, fn1, fn2, cmpD, ltD, leD, gtD, geD, fdivD, modD, negD, mUnp, setAll, mAug, mAppend, mPop, mSetI, mFor, mSrc, srcF, rng1, enmF]
theorem signs_run {a0 a1 a3 a4 b o z : Sl} {ns : List Int} : ∀ (names : List Str) (j : Nat) (kds : List (Key × D)) (dn : Str → Prop) (x y : Sl), j + names.length ≤ ns.length → ns.length ≤ 1000 → kds.length ≤ j → (∀ s, dn s → ∃ v : Fin 3, dget kds (.inr s) = some (.str (vS v))) →
    ∃ kds' x' y', Goes (tgT [5, 9]) l1__law_tree_right (enF j (names.map .str)) [a0, a1, .fro (.lst (ns.map .int)), a3, a4, x, b, o, .own (.dic kds), y, z] [a0, a1, .fro (.lst (ns.map .int)), a3, a4, x', b, o, .own (.dic kds'), y', z] ∧
      ∀ s, dn s ∨ s ∈ names → ∃ v : Fin 3, dget kds' (.inr s) = some (.str (vS v))
  | [], j, kds, dn, x, y, _, _, _, h => ⟨kds, x, y, .nil, fun s hs => h s (hs.resolve_right (by simp))⟩
  | s :: r, j, kds, dn, x, y, hl, h1, hk, h => by
    simp only [List.length_cons] at hl
    obtain ⟨v, e⟩ := l1_run (a0 := a0) (a1 := a1) (a3 := a3) (a4 := a4) (b := b) (o := o) (z := z) (ns := ns) (kds := kds) (s := s) (j := j) (by omega) (by omega)
    have hq : (dput kds (.inr s) (.str (vS v))).length ≤ j + 1 := Nat.le_trans dput_len (by omega)
    obtain ⟨kds', x', y', g, q⟩ := signs_run r (j + 1) (dput kds (.inr s) (.str (vS v))) (fun u => u = s ∨ dn u) (.fro (.int (j : Int))) (.fro (.str s)) (by omega) h1 hq (fun u hu => by
      rw [dget_put]
      by_cases c : u = s
      · subst c
        exact ⟨v, by rw [if_pos rfl]⟩
      · rw [if_neg (by intro q; injection q with q; exact c q)]
        exact h u (hu.resolve_left c))
    refine ⟨kds', x', y', .cons rfl e g, fun u hu => q u ?_⟩
    rcases hu with hu | hu
    · exact .inl (.inr hu)
    · rcases List.mem_cons.mp hu with hu | hu
      · exact .inl (.inl hu)
      · exact .inr hu
theorem run_right {t : T} {names : List Str} {ns : List Int} (F : Fine (· ∈ names) t) (hl : names.length ≤ ns.length) (hn : ns.length ≤ 1000) : ∃ o, r__law_tree_right [.fro t.enc, .fro (.lst (names.map .str)), .fro (.lst (ns.map .int))] = .ok (.fro (.bl true)) o := by
  have hd := F.dep
  have hz := F.size
  obtain ⟨o1, e1⟩ := run_lsh t 90 hd hd
  obtain ⟨o2, e2⟩ := run_least t 90 hd
  obtain ⟨o3, e3⟩ := run_sh t hd
  have hds : t.sh.dep < 90 := by rw [T.dep_sh]; exact hd
  have hzs : t.sh.size ≤ 10000 := by rw [T.size_sh]; exact hz
  obtain ⟨o4, e4⟩ := run_sh t.sh hds
  rw [T.sh_sh] at e4
  obtain ⟨o5, e5⟩ := run_need t 90 hd
  obtain ⟨o6, e6⟩ := run_dright t t.need hd hz rfl
  obtain ⟨o7, e7⟩ := run_dright t.sh t.least hds hzs t.need_sh.symm
  have q1 : eqD true [t.sh.enc, t.sh.enc] = some (.fro (.bl false)) := ne_enc (by omega)
  obtain ⟨b1, c1, g1⟩ := l0_run (t := t) (nm := .fro (.lst (names.map .str))) (ns := ns) (b0 := .non) (o0 := .non) hd hz hn 0 (.inl rfl)
  obtain ⟨b2, c2, g2⟩ := l0_run (t := t) (nm := .fro (.lst (names.map .str))) (ns := ns) (b0 := b1) (o0 := c1) hd hz hn 1 (.inr rfl)
  have g := (Goes.cons (tgt := tgN 5) (d := .int 0) (e := [.fro t.enc, .fro (.lst (names.map .str)), .fro (.lst (ns.map .int)), .fro t.sh.enc, .fro (.int t.least), .non, .non, .non, .non, .non, .non]) rfl g1 (.cons (tgt := tgN 5) (d := .int 1) rfl g2 .nil)).run
  have hr : rangeD 0 2 = [.int 0, .int 1] := rfl
  obtain ⟨kds, x, y, s1, s2⟩ := signs_run (a0 := .fro t.enc) (a1 := .fro (.lst (names.map .str))) (a3 := .fro t.sh.enc) (a4 := .fro (.int t.least)) (b := b2) (o := c2) (z := .non) (ns := ns) names 0 [] (fun _ => False) (.fro (.int 1)) .non (by omega) hn (Nat.le_refl 0) (fun _ h => h.elim)
  have s1 := s1.run
  rw [← enumD_enF] at s1
  have s3 : ∀ s, ∃ v : Fin 3, s ∈ names → dget kds (.inr s) = some (.str (vS v)) := fun s => by
    by_cases c : s ∈ names
    · obtain ⟨v, hv⟩ := s2 s (.inr c)
      exact ⟨v, fun _ => hv⟩
    · exact ⟨0, fun z => absurd z c⟩
  obtain ⟨gg, hgg⟩ : ∃ gg : Str → Fin 3, ∀ s, s ∈ names → dget kds (.inr s) = some (.str (vS (gg s))) := ⟨fun s => (s3 s).choose, fun s => (s3 s).choose_spec⟩
  obtain ⟨o8, e8⟩ := run_value (P := (· ∈ names)) hgg t.sh 90 hds (t.lv_sh F.lv)
  obtain ⟨o9, e9⟩ := run_value (P := (· ∈ names)) hgg t 90 hd F.lv
  rw [T.val_sh] at e8
  refine ⟨[.fro t.enc, .fro (.lst (names.map .str)), .fro (.lst (ns.map .int)), .fro t.sh.enc, .fro (.int t.least), x, b2, c2, .own (.dic kds), y, .non], ?_⟩
  simp [r__law_tree_right, b__law_tree_right, e1, e2, e3, e4, e5, e6, e7, e8, e9, q1, hr, g, s1, fnRun, ownIn, mSeq, mIfS, outOf, outOfB, outOfL, mOp, mB, mCon, mVar, mMov, mRet, mRetN, mAsg, mCall, borL, afterB, goneB, mTup, mLst, froL, Sl.d, Sl.sh, Sl.lk, ops, RS.bind, mNext, clean, mNot, mAnd, mOr, mAndV, mOrV, mNotV, mDrop, mTru, truD, mInt, mDnew, addD, subD, intD2, M.intD, maxD, minD, fn1, fn2, cmpD, ltD, leD, gtD, geD, fdivD, modD, negD, mUnp, setAll, mAug, mAppend, mPop, mSetI, mFor, mSrc, srcF, rng1, enmF]
end K83

set_option Elab.async false
set_option linter.all false
set_option maxRecDepth 100000
set_option maxHeartbeats 2000000
namespace M
open PySem PySem.Spec L2
theorem ix_str {x : Str} {j : Nat} (h : j < x.length) (hl : x.length ≤ 16777216) : ∃ c, ixD [.str x, .int (j : Int)] = some (.fro (.str ⟨#[c]⟩)) := by
  have h2 : j < x.cps.toList.length := by simpa [Str.length] using h
  refine ⟨x.cps.toList[j], ?_⟩
  simp only [ixD, if_pos hl, atI, ixN_nat' h2, Option.bind_some, List.getElem?_eq_getElem h2, Option.map_some]
theorem rng1_nat {n : Nat} (h : n ≤ 1000) : rng1 [.fro (.int (n : Int))] = some (rangeD 0 n) := by
  have hr : (-4611686018427387904 : Int) ≤ (n : Int) ∧ (n : Int) < 4611686018427387904 := by omega
  simp only [rng1, Sl.d]
  rw [if_pos hr, Int.toNat_natCast]
theorem mulD_r {a b : Int} (h : -18446744073709551616 < b ∧ b < 18446744073709551616) : mulD [.int a, .int b] = some (.fro (.int (a * b))) := by
  simp only [mulD, intD2]
  rw [if_pos (.inr h)]
  rfl
theorem modD_ok {a b : Int} (h : b ≠ 0) : ∃ m : Int, modD [.int a, .int b] = some (.fro (.int m)) := ⟨a.fmod b, by simp only [modD, intD2]; rw [if_pos h]; rfl⟩
theorem src_run {os : List Opd} {f : List Sl → Option (List D)} {e e' : En} {ss : List Sl} {ds : List D} (ho : ops os e = .ok ss e') (hf : f ss = some ds) : mSrc os f e = .ok ds e' := by
  unfold mSrc
  rw [ho]
  show (match f ss with | some ds => RS.ok ds e' | none => .bad) = _
  rw [hf]
theorem op_run {os : List Opd} {f : List D → Option Sl} {e e' : En} {ss : List Sl} {s : Sl} (ho : ops os e = .ok ss e') (hf : f (ss.map Sl.d) = some s) : mOp os f e = .ok s e' := by
  unfold mOp
  rw [ho]
  show (match f (ss.map Sl.d) with | some s => RS.ok s e' | none => .bad) = _
  rw [hf]
theorem ops_pk {i : Nat} {e : En} {d : D} (h : e.getD i .non = .fro d) : ops [.pk i] e = .ok [.fro d] e := by
  simp only [ops, h, Sl.lk, RS.bind]
theorem src_rng {e : En} {i n : Nat} (h : e.getD i .non = .fro (.int (n : Int))) (hn : n ≤ 1000) : mSrc [.pk i] rng1 e = .ok (rangeD 0 n) e := src_run (ops_pk h) (rng1_nat hn)
theorem for_run {src : En → RS (List D)} {tgt : D → En → Option En} {body : En → Out} {e e1 e2 : En} {ds : List D} (h : src e = .ok ds e1) (g : Goes tgt body ds e1 e2) : mFor src tgt body e = .nx e2 := by
  unfold mFor
  rw [h]
  exact g.run
theorem seq_run {ms mr : En → Out} {e e1 : En} {r : Out} (h : ms e = .nx e1) (k : mr e1 = r) : mSeq ms mr e = r := by
  unfold mSeq
  rw [h]
  exact k
theorem fn_run {n : Nat} {bs : List Nat} {ms : En → Out} {ss : List Sl} {s : Sl} {e e' : En} (ho : ownIn bs 0 ss = true) (he : ss ++ List.replicate (n - ss.length) .non = e) (h : ms e = .rt s e') : fnRun n bs ms ss = .ok s e' := by
  unfold fnRun
  rw [if_pos ho, he, h]
theorem fn_run_nx {n : Nat} {bs : List Nat} {ms : En → Out} {ss : List Sl} {e e' : En} (ho : ownIn bs 0 ss = true) (he : ss ++ List.replicate (n - ss.length) .non = e) (h : ms e = .nx e') : fnRun n bs ms ss = .ok (.fro .non) e' := by
  unfold fnRun
  rw [if_pos ho, he, h]
theorem pow18 : powD [.int 10, .int 18] = some (.fro (.int 1000000000000000000)) := by
  simp [powD, intD2]
theorem rangeD_ints (n : Nat) : rangeD 0 n = ((List.range n).map fun i : Nat => (i : Int)).map D.int := by
  simp only [rangeD, List.map_map]
  congr 1
  funext i
  simp
theorem cutL_map {α β : Type} (f : α → β) (xs : List α) (lo hi : Option Int) : cutL (xs.map f) lo hi = (cutL xs lo hi).map f := by
  simp only [cutL, List.length_map, List.map_take, List.map_drop]
theorem cutL_nat {α : Type} (xs : List α) (a b : Nat) : cutL xs (some (a : Int)) (some (b : Int)) = (xs.drop (min a xs.length)).take (min b xs.length - min a xs.length) := by
  simp only [cutL, HT.sIx_nat]
theorem cutL_from {α : Type} (xs : List α) (a : Nat) : cutL xs (some (a : Int)) none = xs.drop a := by
  simp only [cutL, HT.sIx_nat, HT.sIx_none]
  by_cases h : a ≤ xs.length
  · rw [Nat.min_eq_left h]
    exact List.take_of_length_le (by simp)
  · rw [Nat.min_eq_right (by omega), List.drop_eq_nil_of_le (Nat.le_refl _), List.drop_eq_nil_of_le (by omega), List.take_nil]
end M
namespace K83
open PySem PySem.Spec L2 M
/-! ### the numbers -/
theorem num_step {cell base rest mixed k : Int} {c : Sl} {acc : List Int} (hb : base ≠ 0) (hb2 : base.natAbs < 1073741824) (hl : acc.length < 16777216) :
    ∃ n rest' mixed' : Int, l0__law_numbers [.fro (.int cell), .fro (.int base), c, .own (.lst (acc.map .int)), .fro (.int rest), .fro (.int mixed), .fro (.int k)] =
      .nx [.fro (.int cell), .fro (.int base), c, .own (.lst ((acc ++ [n]).map .int)), .fro (.int rest'), .fro (.int mixed'), .fro (.int k)] := by
  by_cases h1 : cell ≥ 1000000000000000000
  · by_cases h2 : rest > 0
    · exact ⟨_, _, _, by simp [l0__law_numbers, mulD, pow18, h1, h2, hb, hb2, hl, fnRun, ownIn, mSeq, mIfS, outOf, outOfB, outOfL, mOp, mB, mCon, mVar, mMov, mRet, mRetN, mAsg, mCall, borL, afterB, goneB, mTup, mLst, froL, Sl.d, Sl.sh, Sl.lk, ops, RS.bind, mNext, clean, mNot, mAnd, mOr, mAndV, mOrV, mNotV, mDrop, mTru, truD, mInt, mDnew, addD, subD, intD2, M.intD, maxD, minD, fn1, fn2, cmpD, ltD, leD, gtD, geD, fdivD, modD, negD, mUnp, setAll, mAug, mAppend, mPop, mSetI, mFor, mSrc, srcF, enmF]; exact ⟨rfl, rfl, rfl⟩⟩
    · exact ⟨_, _, _, by simp [l0__law_numbers, mulD, pow18, h1, h2, hb, hb2, hl, fnRun, ownIn, mSeq, mIfS, outOf, outOfB, outOfL, mOp, mB, mCon, mVar, mMov, mRet, mRetN, mAsg, mCall, borL, afterB, goneB, mTup, mLst, froL, Sl.d, Sl.sh, Sl.lk, ops, RS.bind, mNext, clean, mNot, mAnd, mOr, mAndV, mOrV, mNotV, mDrop, mTru, truD, mInt, mDnew, addD, subD, intD2, M.intD, maxD, minD, fn1, fn2, cmpD, ltD, leD, gtD, geD, fdivD, modD, negD, mUnp, setAll, mAug, mAppend, mPop, mSetI, mFor, mSrc, srcF, enmF]; exact ⟨rfl, rfl, rfl⟩⟩
  · exact ⟨_, _, _, by simp [l0__law_numbers, mulD, pow18, h1, hb, hb2, hl, fnRun, ownIn, mSeq, mIfS, outOf, outOfB, outOfL, mOp, mB, mCon, mVar, mMov, mRet, mRetN, mAsg, mCall, borL, afterB, goneB, mTup, mLst, froL, Sl.d, Sl.sh, Sl.lk, ops, RS.bind, mNext, clean, mNot, mAnd, mOr, mAndV, mOrV, mNotV, mDrop, mTru, truD, mInt, mDnew, addD, subD, intD2, M.intD, maxD, minD, fn1, fn2, cmpD, ltD, leD, gtD, geD, fdivD, modD, negD, mUnp, setAll, mAug, mAppend, mPop, mSetI, mFor, mSrc, srcF, enmF]; exact ⟨rfl, rfl, rfl⟩⟩
theorem num_loop {cell base : Int} {c : Sl} (hb : base ≠ 0) (hb2 : base.natAbs < 1073741824) : ∀ (L acc : List Int) (rest mixed : Int) (x : Sl), acc.length + L.length ≤ 1000 →
    ∃ (new : List Int) (rest' mixed' : Int) (x' : Sl), new.length = L.length ∧ Goes (tgN 6) l0__law_numbers (L.map .int) [.fro (.int cell), .fro (.int base), c, .own (.lst (acc.map .int)), .fro (.int rest), .fro (.int mixed), x]
      [.fro (.int cell), .fro (.int base), c, .own (.lst ((acc ++ new).map .int)), .fro (.int rest'), .fro (.int mixed'), x']
  | [], acc, rest, mixed, x, _ => ⟨[], rest, mixed, x, rfl, by rw [List.append_nil]; exact .nil⟩
  | k :: L, acc, rest, mixed, x, h => by
    simp only [List.length_cons] at h
    obtain ⟨n, r1, m1, e⟩ := num_step (cell := cell) (base := base) (rest := rest) (mixed := mixed) (k := k) (c := c) (acc := acc) hb hb2 (by omega)
    obtain ⟨new, r2, m2, x2, hl, g⟩ := num_loop hb hb2 L (acc ++ [n]) r1 m1 (.fro (.int k)) (by simp; omega)
    refine ⟨n :: new, r2, m2, x2, by simp [hl], ?_⟩
    rw [List.append_assoc] at g
    exact .cons rfl e g
theorem run_numbers {cell base : Int} {n : Nat} (hb : base ≠ 0) (hb2 : base.natAbs < 1073741824) (hn : n ≤ 1000) : ∃ (ns : List Int), ns.length = n ∧ ∃ o, r__law_numbers [.fro (.int cell), .fro (.int base), .fro (.int (n : Int))] = .ok (.own (.lst (ns.map .int))) o := by
  obtain ⟨m0, hm0⟩ : ∃ m0, modD [.int (cell * 48271 + 7), .int 2147483647] = some (.fro (.int m0)) := modD_ok (by decide)
  obtain ⟨new, r, m, x, hl, g⟩ := num_loop (cell := cell) (base := base) (c := .fro (.int (n : Int))) hb hb2 ((List.range n).map fun i : Nat => (i : Int)) [] cell m0 .non (by simp; omega)
  rw [← rangeD_ints, List.nil_append, List.map_nil] at g
  refine ⟨new, by simpa using hl, [.fro (.int cell), .fro (.int base), .fro (.int (n : Int)), .non, .fro (.int r), .fro (.int m), x], ?_⟩
  have hmul : mulD [.int cell, .int 48271] = some (.fro (.int (cell * 48271))) := mulD_r (by decide)
  have s3 : mAsg 5 (mOp [.val (mOp [.val (mOp [.val (mOp [.pk 0, .val (mCon (.int 48271))] mulD), .val (mCon (.int 7))] addD)] M.intD), .val (mCon (.int 2147483647))] modD) [.fro (.int cell), .fro (.int base), .fro (.int (n : Int)), .own (.lst []), .fro (.int cell), .non, .non] = .nx [.fro (.int cell), .fro (.int base), .fro (.int (n : Int)), .own (.lst []), .fro (.int cell), .fro (.int m0), .non] := by
    simp [hmul, hm0, fnRun, ownIn, mSeq, mIfS, outOf, outOfB, outOfL, mOp, mB, mCon, mVar, mMov, mRet, mRetN, mAsg, mCall, borL, afterB, goneB, mTup, mLst, froL, Sl.d, Sl.sh, Sl.lk, ops, RS.bind, mNext, clean, mNot, mAnd, mOr, mAndV, mOrV, mNotV, mDrop, mTru, truD, mInt, mDnew, addD, subD, intD2, M.intD, maxD, minD, fn1, fn2, cmpD, ltD, leD, gtD, geD, fdivD, negD, mUnp, setAll, mAug, mAppend, mPop, mSetI, mFor, mSrc, srcF, enmF]
  refine fn_run rfl rfl (seq_run (e1 := [.fro (.int cell), .fro (.int base), .fro (.int (n : Int)), .own (.lst []), .non, .non, .non]) (by simp [fnRun, ownIn, mSeq, mIfS, outOf, outOfB, outOfL, mOp, mB, mCon, mVar, mMov, mRet, mRetN, mAsg, mCall, borL, afterB, goneB, mTup, mLst, froL, Sl.d, Sl.sh, Sl.lk, ops, RS.bind, mNext, clean, mNot, mAnd, mOr, mAndV, mOrV, mNotV, mDrop, mTru, truD, mInt, mDnew, addD, subD, intD2, M.intD, maxD, minD, fn1, fn2, cmpD, ltD, leD, gtD, geD, fdivD, modD, negD, mUnp, setAll, mAug, mAppend, mPop, mSetI, mFor, mSrc, srcF, enmF]) (seq_run (e1 := [.fro (.int cell), .fro (.int base), .fro (.int (n : Int)), .own (.lst []), .fro (.int cell), .non, .non]) rfl (seq_run s3 (seq_run (for_run (src_rng rfl hn) g) rfl))))
/-! ### the names -/
def letters : Str := "abcdefghijklmnopqrstuvwxyz0123456789"
theorem letters_len : letters.length = 36 := by decide +kernel
theorem letter {j : Nat} (h : j < 36) : ∃ c, ixD [.str letters, .int (j : Int)] = some (.fro (.str ⟨#[c]⟩)) := ix_str (by rw [letters_len]; exact h) (by rw [letters_len]; decide)
theorem letter_mod (x : Int) {n : Nat} (h0 : 0 < n) (h : n ≤ 36) : ∃ c, ixD [.str letters, .int (x.fmod (n : Int))] = some (.fro (.str ⟨#[c]⟩)) := by
  obtain ⟨j, hj, e⟩ := fmod_nat x h0
  rw [e]
  exact letter (by omega)
theorem one_len (c : Nat) : (⟨#[c]⟩ : Str).length = 1 := rfl
theorem join_chars : ∀ cs : List Nat, strsD (cs.map fun c => D.str ⟨#[c]⟩) = some (cs.map fun c => (⟨#[c]⟩ : Str))
  | [] => rfl
  | c :: r => by simp [strsD, join_chars r]
theorem join_ok (cs : List Nat) (h : cs.length ≤ 1000) : ∃ z : Str, z.length = cs.length ∧ joinD "" [.lst (cs.map fun c => D.str ⟨#[c]⟩)] = some (.fro (.str z)) := by
  have h1 : ((cs.map fun c => (⟨#[c]⟩ : Str)).map (·.length)).sum = cs.length := by
    clear h
    induction cs with
    | nil => rfl
    | cons c r ih => rw [List.map_cons, List.map_cons, List.sum_cons, ih, List.length_cons]; exact Nat.add_comm 1 _
  have h2 : ("" : Str).length = 0 := rfl
  refine ⟨Txt.join "" (cs.map fun c => (⟨#[c]⟩ : Str)), ?_, ?_⟩
  · have := PySem.W.KT.join_ones (cs.map fun c => (⟨#[c]⟩ : Str)) (fun a ha => by obtain ⟨c, _, rfl⟩ := List.mem_map.mp ha; rfl)
    rw [List.length_map] at this
    exact this
  · simp only [joinD, fn1, join_chars, Option.bind_some, h1, h2]
    rw [if_pos (show cs.length + (cs.map fun c => (⟨#[c]⟩ : Str)).length * 0 ≤ 16777216 by simp only [List.length_map]; omega)]
theorem lc_letters {a0 a1 a3 a4 a5 a6 a7 : Sl} (L : List Int) (hL : L.length ≤ 1000) : ∃ cs : List Nat, cs.length = L.length ∧ lcL (tgN 8) mYes e0__law_names [8] (L.map .int) [a0, a1, .fro (.str letters), a3, a4, a5, a6, a7, .non] [] = .ok (.own (.lst (cs.map fun c => D.str ⟨#[c]⟩))) [a0, a1, .fro (.str letters), a3, a4, a5, a6, a7, .non] := by
  have pick : ∀ n : Int, ∃ c, ixD [.str letters, .int (n.fmod 36)] = some (.fro (.str ⟨#[c]⟩)) := fun n => letter_mod n (n := 36) (by omega) (Nat.le_refl _)
  obtain ⟨F, hF⟩ : ∃ F : Int → Nat, ∀ n, ixD [.str letters, .int (n.fmod 36)] = some (.fro (.str ⟨#[F n]⟩)) := ⟨fun n => (pick n).choose, fun n => (pick n).choose_spec⟩
  refine ⟨L.map F, by simp, ?_⟩
  rw [lc_map (f := fun d => match d with | .int n => .str ⟨#[F n]⟩ | d => d) (L.map .int) _ [] rfl ?_ (by simp; omega)]
  · rw [List.nil_append, List.map_map, List.map_map]
    rfl
  · intro d hd
    obtain ⟨n, _, rfl⟩ := List.mem_map.mp hd
    have hc := hF n
    simp [e0__law_names, hc, fnRun, ownIn, mSeq, mIfS, outOf, outOfB, outOfL, mOp, mB, mCon, mVar, mMov, mRet, mRetN, mAsg, mCall, borL, afterB, goneB, mTup, mLst, froL, Sl.d, Sl.sh, Sl.lk, ops, RS.bind, mNext, clean, mNot, mAnd, mOr, mAndV, mOrV, mNotV, mDrop, mTru, truD, mInt, mDnew, addD, subD, intD2, M.intD, maxD, minD, fn1, fn2, cmpD, ltD, leD, gtD, geD, fdivD, modD, negD, mUnp, setAll, mAug, mAppend, mPop, mSetI, mFor, mSrc, srcF, enmF]
end K83

set_option Elab.async false
set_option linter.all false
set_option maxRecDepth 100000
set_option maxHeartbeats 2000000
namespace M
open PySem PySem.Spec L2
theorem addI {a b : Int} : addD [.int a, .int b] = some (.fro (.int (a + b))) := rfl
theorem addS {a b : Str} (h : a.length + b.length ≤ 16777216) : addD [.str a, .str b] = some (.fro (.str (a ++ b))) := by
  simp only [addD]
  rw [if_pos h]
theorem mulD_l {a b : Int} (h : -18446744073709551616 < a ∧ a < 18446744073709551616) : mulD [.int a, .int b] = some (.fro (.int (a * b))) := by
  simp only [mulD, intD2]
  rw [if_pos (.inl h)]
  rfl
theorem modD_nat (a : Int) {n : Nat} (h : 0 < n) : ∃ j : Nat, j < n ∧ modD [.int a, .int (n : Int)] = some (.fro (.int (j : Int))) := by
  obtain ⟨j, hj, e⟩ := fmod_nat a h
  refine ⟨j, hj, ?_⟩
  simp only [modD, intD2]
  rw [if_pos (by omega), e]
  rfl
theorem fdivD_ok {a b : Int} (h : b ≠ 0) (h2 : b.natAbs < 1073741824) : ∃ m : Int, fdivD [.int a, .int b] = some (.fro (.int m)) := ⟨a.fdiv b, by simp only [fdivD, intD2]; rw [if_pos ⟨h, h2⟩]; rfl⟩
theorem lc_go {src : En → RS (List D)} {tgt : D → En → Option En} {mc : En → RS Bool} {me : En → RS Sl} {vs : List Nat} {e e1 : En} {ds : List D} {r : RS Sl} (h : src e = .ok ds e1) (k : lcL tgt mc me vs ds (wipeE e1 vs) [] = r) : mLc src tgt mc me vs e = r := by
  unfold mLc
  rw [h]
  exact k
end M
namespace K83
open PySem PySem.Spec L2 M
theorem row_cut {ns : List Int} {k c : Nat} (hk : k < c) (hl : ns.length = 6 * c + 1) : ∃ R : List Int, R.length = 6 ∧ sl11 [.lst (ns.map .int), .int (6 * (k : Int) + 1), .int (6 * (k : Int) + 7)] = some (.own (.lst (R.map .int))) := by
  refine ⟨cutL ns (some ((6 * k + 1 : Nat) : Int)) (some ((6 * k + 7 : Nat) : Int)), ?_, ?_⟩
  · rw [cutL_nat]
    simp
    omega
  · rw [← cutL_map]
    simp only [sl11, sliceD]
    rw [show (6 * (k : Int) + 1) = ((6 * k + 1 : Nat) : Int) by omega, show (6 * (k : Int) + 7) = ((6 * k + 7 : Nat) : Int) by omega]
theorem rest_cut {R : List Int} {j : Nat} (hl : R.length = 6) : ∃ S : List Int, S.length ≤ 6 ∧ sl11 [.lst (R.map .int), .int 1, .int (1 + (j : Int))] = some (.own (.lst (S.map .int))) := by
  refine ⟨cutL R (some ((1 : Nat) : Int)) (some ((1 + j : Nat) : Int)), ?_, ?_⟩
  · rw [cutL_nat]
    simp
    omega
  · rw [← cutL_map]
    simp only [sl11, sliceD]
    rw [show (1 + (j : Int)) = ((1 + j : Nat) : Int) by omega]
    rfl
theorem name_step {a0 a1 x y : Sl} {ns : List Int} {acc : List Str} {k c : Nat} (hk : k < c) (hc : c ≤ 6) (hl : ns.length = 6 * c + 1) (ha : acc.length ≤ 1000) :
    ∃ (s : Str) (x' y' : Sl), l0__law_names [a0, a1, .fro (.str letters), .own (.lst (ns.map .int)), .own (.lst (acc.map .str)), .fro (.int (k : Int)), x, y, .non] =
      .nx [a0, a1, .fro (.str letters), .own (.lst (ns.map .int)), .own (.lst ((acc ++ [s]).map .str)), .fro (.int (k : Int)), x', y', .non] := by
  obtain ⟨R, hR, e1⟩ := row_cut hk hl
  have m1 : mulD [.int 6, .int (k : Int)] = some (.fro (.int (6 * (k : Int)))) := mulD_l (by decide)
  have s1 : mAsg 6 (mOp [.pk 3, .val (mInt (mOp [.val (mOp [.val (mCon (.int 6)), .pk 5] mulD), .val (mCon (.int 1))] addD)), .val (mOp [.val (mOp [.val (mCon (.int 6)), .pk 5] mulD), .val (mCon (.int 7))] addD)] sl11)
      [a0, a1, .fro (.str letters), .own (.lst (ns.map .int)), .own (.lst (acc.map .str)), .fro (.int (k : Int)), x, y, .non] = .nx [a0, a1, .fro (.str letters), .own (.lst (ns.map .int)), .own (.lst (acc.map .str)), .fro (.int (k : Int)), .own (.lst (R.map .int)), y, .non] := by
    simp [e1, m1, fnRun, ownIn, mSeq, mIfS, outOf, outOfB, outOfL, mOp, mB, mCon, mVar, mMov, mRet, mRetN, mAsg, mCall, borL, afterB, goneB, mTup, mLst, froL, Sl.d, Sl.sh, Sl.lk, ops, RS.bind, mNext, clean, mNot, mAnd, mOr, mAndV, mOrV, mNotV, mDrop, mTru, truD, mInt, mDnew, M.addI, subD, intD2, M.intD, maxD, minD, fn1, fn2, cmpD, ltD, leD, gtD, geD, negD, mUnp, setAll, mAug, mAppend, mPop, mSetI, mFor, mSrc, srcF, enmF]
  have r5 : ixD [.lst (R.map .int), .int 5] = some (.fro (.int R[5])) := ix_ints (j := 5) (by omega)
  have r0 : ixD [.lst (R.map .int), .int 0] = some (.fro (.int R[0])) := ix_ints (j := 0) (by omega)
  have n0 : ixD [.lst (ns.map .int), .int 0] = some (.fro (.int ns[0])) := ix_ints (j := 0) (by omega)
  obtain ⟨j, hj, e2⟩ : ∃ j : Nat, j < 5 ∧ modD [.int R[5], .int 5] = some (.fro (.int (j : Int))) := modD_nat R[5] (n := 5) (by omega)
  obtain ⟨S, hS, e3⟩ := rest_cut (R := R) (j := j) hR
  obtain ⟨cs, hcs, e4⟩ := lc_letters (a0 := a0) (a1 := a1) (a3 := .own (.lst (ns.map .int))) (a4 := .own (.lst (acc.map .str))) (a5 := .fro (.int (k : Int))) (a6 := .own (.lst (R.map .int))) (a7 := y) S (by omega)
  obtain ⟨z, hz, e5⟩ := join_ok cs (by omega)
  have s2 : mSrc [.val (mOp [.pk 6, .val (mInt (mCon (.int 1))), .val (mOp [.val (mCon (.int 1)), .val (mOp [.val (mOp [.val (mOp [.pk 6, .val (mCon (.int 5))] ixD)] M.intD), .val (mCon (.int 5))] modD)] addD)] sl11)] srcF
      [a0, a1, .fro (.str letters), .own (.lst (ns.map .int)), .own (.lst (acc.map .str)), .fro (.int (k : Int)), .own (.lst (R.map .int)), y, .non] = .ok (S.map .int) [a0, a1, .fro (.str letters), .own (.lst (ns.map .int)), .own (.lst (acc.map .str)), .fro (.int (k : Int)), .own (.lst (R.map .int)), y, .non] := by
    simp [r5, e2, e3, fnRun, ownIn, mSeq, mIfS, outOf, outOfB, outOfL, mOp, mB, mCon, mVar, mMov, mRet, mRetN, mAsg, mCall, borL, afterB, goneB, mTup, mLst, froL, Sl.d, Sl.sh, Sl.lk, ops, RS.bind, mNext, clean, mNot, mAnd, mOr, mAndV, mOrV, mNotV, mDrop, mTru, truD, mInt, mDnew, M.addI, subD, intD2, M.intD, maxD, minD, fn1, fn2, cmpD, ltD, leD, gtD, geD, negD, mUnp, setAll, mAug, mAppend, mPop, mSetI, mFor, mSrc, srcF, enmF]
  have s3 := lc_go (tgt := tgN 8) (mc := mYes) (me := e0__law_names) (vs := [8]) s2 e4
  have s4 : mAsg 7 (mOp [.val (mLc (mSrc [.val (mOp [.pk 6, .val (mInt (mCon (.int 1))), .val (mOp [.val (mCon (.int 1)), .val (mOp [.val (mOp [.val (mOp [.pk 6, .val (mCon (.int 5))] ixD)] M.intD), .val (mCon (.int 5))] modD)] addD)] sl11)] srcF) (tgN 8) (mYes) (e0__law_names) [8])] (joinD ""))
      [a0, a1, .fro (.str letters), .own (.lst (ns.map .int)), .own (.lst (acc.map .str)), .fro (.int (k : Int)), .own (.lst (R.map .int)), y, .non] = .nx [a0, a1, .fro (.str letters), .own (.lst (ns.map .int)), .own (.lst (acc.map .str)), .fro (.int (k : Int)), .own (.lst (R.map .int)), .fro (.str z), .non] := by
    unfold mAsg
    rw [op_run (ss := [.fro (.lst (cs.map fun c => D.str ⟨#[c]⟩))]) (e' := [a0, a1, .fro (.str letters), .own (.lst (ns.map .int)), .own (.lst (acc.map .str)), .fro (.int (k : Int)), .own (.lst (R.map .int)), y, .non]) (s := .fro (.str z)) (by simp only [ops, s3, RS.bind, Sl.sh]) e5]
    rfl
  obtain ⟨j2, hj2, e6⟩ : ∃ j : Nat, j < 2 ∧ modD [.int ns[0], .int 2] = some (.fro (.int (j : Int))) := modD_nat ns[0] (n := 2) (by omega)
  obtain ⟨j3, hj3, e7⟩ : ∃ j : Nat, j < 26 ∧ modD [.int R[0], .int 26] = some (.fro (.int (j : Int))) := modD_nat R[0] (n := 26) (by omega)
  obtain ⟨c1, e8⟩ := letter (j := j3) (by omega)
  obtain ⟨c2, e9⟩ := letter (j := k) (by omega)
  obtain ⟨c3, e10⟩ := letter (j := 35 - k) (by omega)
  have e10' : ixD [.str letters, .int (35 - (k : Int))] = some (.fro (.str ⟨#[c3]⟩)) := by
    rw [show (35 - (k : Int)) = ((35 - k : Nat) : Int) by omega]
    exact e10
  have hal : acc.length < 16777216 := by omega
  have l1 := one_len c1
  have l2 := one_len c2
  have l3 := one_len c3
  have t1 : addD [.str ⟨#[c1]⟩, .str ⟨#[c2]⟩] = some (.fro (.str (⟨#[c1]⟩ ++ ⟨#[c2]⟩))) := addS (by omega)
  have t2 : addD [.str (⟨#[c1]⟩ ++ ⟨#[c2]⟩), .str z] = some (.fro (.str ((⟨#[c1]⟩ ++ ⟨#[c2]⟩) ++ z))) := addS (by rw [Str.length_append]; omega)
  have t3 : addD [.str ⟨#[c1]⟩, .str z] = some (.fro (.str (⟨#[c1]⟩ ++ z))) := addS (by omega)
  have t4 : addD [.str (⟨#[c1]⟩ ++ z), .str ⟨#[c3]⟩] = some (.fro (.str ((⟨#[c1]⟩ ++ z) ++ ⟨#[c3]⟩))) := addS (by rw [Str.length_append]; omega)
  by_cases hp : (j2 : Int) = 0
  · exact ⟨(⟨#[c1]⟩ ++ ⟨#[c2]⟩) ++ z, .own (.lst (R.map .int)), .fro (.str z), seq_run s1 (seq_run s4 (by simp [n0, e6, hp, r0, e7, e8, e9, t1, t2, hal, fnRun, ownIn, mSeq, mIfS, outOf, outOfB, outOfL, mOp, mB, mCon, mVar, mMov, mRet, mRetN, mAsg, mCall, borL, afterB, goneB, mTup, mLst, froL, Sl.d, Sl.sh, Sl.lk, ops, RS.bind, mNext, clean, mNot, mAnd, mOr, mAndV, mOrV, mNotV, mDrop, mTru, truD, mInt, mDnew, M.addI, subD, intD2, M.intD, maxD, minD, fn1, fn2, cmpD, ltD, leD, gtD, geD, negD, mUnp, setAll, mAug, mAppend, mPop, mSetI, mFor, mSrc, srcF, enmF]))⟩
  · have hpn : ¬ j2 = 0 := by omega
    exact ⟨(⟨#[c1]⟩ ++ z) ++ ⟨#[c3]⟩, .own (.lst (R.map .int)), .fro (.str z), seq_run s1 (seq_run s4 (by simp [n0, e6, hpn, r0, e7, e8, e10', t3, t4, hal, fnRun, ownIn, mSeq, mIfS, outOf, outOfB, outOfL, mOp, mB, mCon, mVar, mMov, mRet, mRetN, mAsg, mCall, borL, afterB, goneB, mTup, mLst, froL, Sl.d, Sl.sh, Sl.lk, ops, RS.bind, mNext, clean, mNot, mAnd, mOr, mAndV, mOrV, mNotV, mDrop, mTru, truD, mInt, mDnew, M.addI, subD, intD2, M.intD, maxD, minD, fn1, fn2, cmpD, ltD, leD, gtD, geD, negD, mUnp, setAll, mAug, mAppend, mPop, mSetI, mFor, mSrc, srcF, enmF]))⟩
theorem names_loop {a0 a1 : Sl} {ns : List Int} {c : Nat} (hc : c ≤ 6) (hl : ns.length = 6 * c + 1) : ∀ (L : List Nat) (acc : List Str) (v x y : Sl), (∀ k ∈ L, k < c) → acc.length + L.length ≤ 1000 →
    ∃ (new : List Str) (v' x' y' : Sl), new.length = L.length ∧ Goes (tgN 5) l0__law_names ((L.map fun i : Nat => (i : Int)).map .int) [a0, a1, .fro (.str letters), .own (.lst (ns.map .int)), .own (.lst (acc.map .str)), v, x, y, .non]
      [a0, a1, .fro (.str letters), .own (.lst (ns.map .int)), .own (.lst ((acc ++ new).map .str)), v', x', y', .non]
  | [], acc, v, x, y, _, _ => ⟨[], v, x, y, rfl, by rw [List.append_nil]; exact .nil⟩
  | k :: L, acc, v, x, y, h, hle => by
    simp only [List.length_cons] at hle
    obtain ⟨s, x1, y1, e⟩ := name_step (a0 := a0) (a1 := a1) (x := x) (y := y) (ns := ns) (acc := acc) (k := k) (c := c) (h k List.mem_cons_self) hc hl (by omega)
    obtain ⟨new, v2, x2, y2, h2, g⟩ := names_loop hc hl L (acc ++ [s]) (.fro (.int (k : Int))) x1 y1 (fun i hi => h i (List.mem_cons_of_mem _ hi)) (by simp; omega)
    refine ⟨s :: new, v2, x2, y2, by simp [h2], ?_⟩
    rw [List.append_assoc] at g
    exact .cons rfl e g
theorem run_names {cell : Int} {c : Nat} (hc : c ≤ 6) : ∃ names : List Str, names.length = c ∧ ∃ o, r__law_names [.fro (.int cell), .fro (.int (c : Int))] = .ok (.own (.lst (names.map .str))) o := by
  obtain ⟨ns, hns, o1, e1⟩ := run_numbers (cell := cell) (base := 180) (n := 6 * c + 1) (by decide) (by decide) (by omega)
  obtain ⟨names, v, x, y, h2, g⟩ := names_loop (a0 := .fro (.int cell)) (a1 := .fro (.int (c : Int))) (ns := ns) hc hns (List.range c) [] .non .non .non (fun k hk => List.mem_range.mp hk) (by simp; omega)
  rw [← rangeD_ints, List.nil_append, List.map_nil] at g
  refine ⟨names, by simpa using h2, [.fro (.int cell), .fro (.int (c : Int)), .fro (.str letters), .own (.lst (ns.map .int)), .non, v, x, y, .non], ?_⟩
  have m1 : mulD [.int 6, .int (c : Int)] = some (.fro (.int (6 * (c : Int)))) := mulD_l (by decide)
  have e1' : r__law_numbers [.fro (.int cell), .fro (.int 180), .fro (.int (6 * (c : Int) + 1))] = .ok (.own (.lst (ns.map .int))) o1 := by
    rw [← e1]
    rfl
  have s2 : mAsg 3 (mCall r__law_numbers [.pk 0, .val (mCon (.int 180)), .val (mOp [.val (mOp [.val (mCon (.int 6)), .pk 1] mulD), .val (mCon (.int 1))] addD)]) [.fro (.int cell), .fro (.int (c : Int)), .fro (.str letters), .non, .non, .non, .non, .non, .non] = .nx [.fro (.int cell), .fro (.int (c : Int)), .fro (.str letters), .own (.lst (ns.map .int)), .non, .non, .non, .non, .non] := by
    simp [m1, e1', fnRun, ownIn, mSeq, mIfS, outOf, outOfB, outOfL, mOp, mB, mCon, mVar, mMov, mRet, mRetN, mAsg, mCall, borL, afterB, goneB, mTup, mLst, froL, Sl.d, Sl.sh, Sl.lk, ops, RS.bind, mNext, clean, mNot, mAnd, mOr, mAndV, mOrV, mNotV, mDrop, mTru, truD, mInt, mDnew, M.addI, subD, intD2, M.intD, maxD, minD, fn1, fn2, cmpD, ltD, leD, gtD, geD, negD, mUnp, setAll, mAug, mAppend, mPop, mSetI, mFor, mSrc, srcF, enmF]
  exact fn_run rfl rfl (seq_run (e1 := [.fro (.int cell), .fro (.int (c : Int)), .fro (.str letters), .non, .non, .non, .non, .non, .non]) rfl (seq_run s2 (seq_run (e1 := [.fro (.int cell), .fro (.int (c : Int)), .fro (.str letters), .own (.lst (ns.map .int)), .own (.lst []), .non, .non, .non, .non]) (by simp [fnRun, ownIn, mSeq, mIfS, outOf, outOfB, outOfL, mOp, mB, mCon, mVar, mMov, mRet, mRetN, mAsg, mCall, borL, afterB, goneB, mTup, mLst, froL, Sl.d, Sl.sh, Sl.lk, ops, RS.bind, mNext, clean, mNot, mAnd, mOr, mAndV, mOrV, mNotV, mDrop, mTru, truD, mInt, mDnew, addD, subD, intD2, M.intD, maxD, minD, fn1, fn2, cmpD, ltD, leD, gtD, geD, fdivD, modD, negD, mUnp, setAll, mAug, mAppend, mPop, mSetI, mFor, mSrc, srcF, enmF]) (seq_run (for_run (src_rng rfl (by omega)) g) rfl))))
end K83

set_option Elab.async false
set_option linter.all false
set_option maxRecDepth 100000
set_option maxHeartbeats 2000000
namespace M
open PySem PySem.Spec L2
theorem len_lst {ds : List D} : lenD [.lst ds] = some (.fro (.int (ds.length : Int))) := rfl
theorem sign_nat {j : Nat} (h : j < 3) : ∃ o : Fin 3, ixD [.str "&^|", .int (j : Int)] = some (.fro (.str (opS o))) := by
  match j, h with
  | 0, _ => exact ⟨0, rfl⟩
  | 1, _ => exact ⟨1, rfl⟩
  | 2, _ => exact ⟨2, rfl⟩
theorem ix_last {ds : List D} {d : D} (h : ds[ds.length - 1]? = some d) : ixD [.lst ds, .int (-1)] = some (.fro d) ∧ ixN ds.length (-1) = some (ds.length - 1) := by
  have hl : 0 < ds.length := by
    cases ds with
    | nil => simp at h
    | cons a r => simp
  have e : ixN ds.length (-1) = some (ds.length - 1) := by
    unfold ixN
    rw [if_neg (by omega)]
    rw [if_pos (by omega)]
    congr 1
    omega
  exact ⟨by simp only [ixD, atI, e, Option.bind_some, h, Option.map_some], e⟩
def PInv (P : Str → Prop) (i : Nat) (Ts : List T) : Prop := Ts ≠ [] ∧ (∀ t ∈ Ts, t.lv P ∧ t.dep + Ts.length ≤ 1 + i) ∧ (Ts.map T.size).sum ≤ 1 + 2 * i
theorem PInv.len {P : Str → Prop} {i : Nat} {Ts : List T} (h : PInv P i Ts) : 0 < Ts.length ∧ Ts.length ≤ 1 + i := by
  obtain ⟨h1, h2, _⟩ := h
  cases Ts with
  | nil => exact absurd rfl h1
  | cons a r =>
    have := (h2 a List.mem_cons_self).2
    exact ⟨by simp, by omega⟩
theorem split_at {Ts : List T} {j : Nat} (h : j < Ts.length) : ∃ l r, Ts = l ++ Ts[j] :: r ∧ l.length = j := by
  refine ⟨Ts.take j, Ts.drop (j + 1), ?_, by simp; omega⟩
  rw [← List.drop_eq_getElem_cons h, List.take_append_drop]
theorem PInv.set {P : Str → Prop} {i j : Nat} {Ts : List T} {t' : T} (h : PInv P i Ts) (hj : j < Ts.length) (h1 : t'.lv P) (h2 : t'.dep ≤ Ts[j].dep + 1) (h3 : t'.size ≤ Ts[j].size + 2) : PInv P (i + 1) (Ts.set j t') := by
  obtain ⟨q1, q2, q3⟩ := h
  obtain ⟨l, r, e, hl⟩ := split_at hj
  generalize ha : Ts[j] = a at *
  clear ha
  subst e
  have es : (l ++ a :: r).set j t' = l ++ t' :: r := by
    rw [← hl, List.set_append_right _ _ (Nat.le_refl _), Nat.sub_self, List.set_cons_zero]
  rw [es]
  refine ⟨by simp, fun t ht => ?_, ?_⟩
  · have hla := (q2 a (by simp)).2
    simp only [List.length_append, List.length_cons] at hla ⊢
    rcases List.mem_append.mp ht with ht | ht
    · have := q2 t (List.mem_append.mpr (.inl ht))
      simp only [List.length_append, List.length_cons] at this
      exact ⟨this.1, by omega⟩
    · rcases List.mem_cons.mp ht with ht | ht
      · subst ht
        exact ⟨h1, by omega⟩
      · have := q2 t (List.mem_append.mpr (.inr (List.mem_cons_of_mem _ ht)))
        simp only [List.length_append, List.length_cons] at this
        exact ⟨this.1, by omega⟩
  · simp only [List.map_append, List.map_cons, List.sum_append, List.sum_cons] at q3 ⊢
    omega
theorem PInv.push {P : Str → Prop} {i : Nat} {Ts : List T} {t' : T} (h : PInv P i Ts) (h1 : t'.lv P) (h2 : t'.dep = 0) (h3 : t'.size ≤ 2) : PInv P (i + 1) (Ts ++ [t']) := by
  have hl := h.len
  obtain ⟨q1, q2, q3⟩ := h
  refine ⟨by simp, fun t ht => ?_, ?_⟩
  · simp only [List.length_append, List.length_cons, List.length_nil]
    rcases List.mem_append.mp ht with ht | ht
    · have := q2 t ht
      exact ⟨this.1, by omega⟩
    · rw [List.mem_singleton.mp ht]
      exact ⟨h1, by omega⟩
  · simp only [List.map_append, List.map_cons, List.map_nil, List.sum_append, List.sum_cons, List.sum_nil] at q3 ⊢
    omega
theorem PInv.merge {P : Str → Prop} {i : Nat} {l : List T} {a b : T} {o : Fin 3} (h : PInv P i (l ++ [a, b])) : PInv P (i + 1) (l ++ [.bin o a b]) := by
  obtain ⟨q1, q2, q3⟩ := h
  have ha := q2 a (by simp)
  have hb := q2 b (by simp)
  simp only [List.length_append, List.length_cons, List.length_nil] at ha hb q2
  refine ⟨by simp, fun t ht => ?_, ?_⟩
  · simp only [List.length_append, List.length_cons, List.length_nil]
    rcases List.mem_append.mp ht with ht | ht
    · have := q2 t (List.mem_append.mpr (.inl ht))
      exact ⟨this.1, by omega⟩
    · rw [List.mem_singleton.mp ht]
      exact ⟨⟨ha.1, hb.1⟩, by simp only [T.dep]; omega⟩
  · simp only [List.map_append, List.map_cons, List.map_nil, List.sum_append, List.sum_cons, List.sum_nil, T.size] at q3 ⊢
    omega
theorem two_last {Ts : List T} (h : 1 < Ts.length) : ∃ l a b, Ts = l ++ [a, b] := by
  have h1 : Ts ≠ [] := by intro z; subst z; simp at h
  have e1 := List.dropLast_concat_getLast h1
  have h2 : Ts.dropLast ≠ [] := by
    intro z
    have := congrArg List.length z
    simp at this
    omega
  have e2 := List.dropLast_concat_getLast h2
  refine ⟨Ts.dropLast.dropLast, Ts.dropLast.getLast h2, Ts.getLast h1, ?_⟩
  conv => lhs; rw [← e1, ← e2]
  simp
end M
namespace K83
open PySem PySem.Spec L2 M
def tailK : En → Out := (mIfS (mB (mOp [.pk 5, .val (mCon (.int 0))] (eqD false)))
  (mSetI 3 (.val (mTup [.val (mCon (.str "!")), .val (mOp [.pk 3, .pk 8] ixD)])) (.pk 8))
  (mIfS (mB (mOp [.pk 5, .val (mCon (.int 1))] (eqD false)))
  (mAppend 3 (.val (mVar 6)))
  (mIfS (mB (mOp [.pk 5, .val (mCon (.int 2))] (eqD false)))
  (mSetI 3 (.val (mTup [.val (mVar 7), .val (mVar 6), .val (mOp [.pk 3, .pk 8] ixD)])) (.pk 8))
  (mIfS (mAnd (mB (mOp [.pk 5, .val (mCon (.int 3))] (eqD false))) (mB (mOp [.val (mOp [.pk 3] lenD), .val (mCon (.int 1))] gtD)))
  (mSeq (mAsg 9 (mPop 3))
  (mSetI 3 (.val (mTup [.val (mVar 7), .val (mOp [.pk 3, .val (mOp [.val (mCon (.int 1))] negD)] ixD), .val (mVar 9)])) (.val (mOp [.val (mCon (.int 1))] negD))))
  (mSetI 3 (.val (mTup [.val (mVar 7), .val (mOp [.pk 3, .pk 8] ixD), .val (mVar 6)])) (.pk 8))))))
theorem tail0 {a0 a1 z9 z10 z11 : Sl} {lv : List Str} {ds : List D} {x : Int} {s so : Str} {j m : Nat} {d : D} (f10 : ixD [.lst ds, .int (j : Int)] = some (.fro d)) (f11 : ixN ds.length (j : Int) = some m) :
    tailK [a0, a1, .own (.lst (lv.map .str)), .own (.lst ds), .fro (.int x), .fro (.int ((0 : Nat) : Int)), .fro (.str s), .fro (.str so), .fro (.int (j : Int)), z9, z10, z11] = .nx [a0, a1, .own (.lst (lv.map .str)), .own (.lst (ds.set m (.tup [.str "!", d]))), .fro (.int x), .fro (.int ((0 : Nat) : Int)), .fro (.str s), .fro (.str so), .fro (.int (j : Int)), z9, z10, z11] := by
  simp [tailK, f10, f11, fnRun, ownIn, mSeq, mIfS, outOf, outOfB, outOfL, mOp, mB, mCon, mVar, mMov, mRet, mRetN, mAsg, mCall, borL, afterB, goneB, mTup, mLst, froL, Sl.d, Sl.sh, Sl.lk, ops, RS.bind, mNext, clean, mNot, mAnd, mOr, mAndV, mOrV, mNotV, mDrop, mTru, truD, mInt, mDnew, M.addI, subD, intD2, M.intD, maxD, minD, fn1, fn2, cmpD, ltD, leD, gtD, geD, negD, mUnp, setAll, mAug, mAppend, mPop, mSetI, mFor, mSrc, srcF, enmF]
theorem tail1 {a0 a1 z9 z10 z11 : Sl} {lv : List Str} {ds : List D} {x : Int} {s so : Str} {j : Nat} (hd : ds.length < 16777216) :
    tailK [a0, a1, .own (.lst (lv.map .str)), .own (.lst ds), .fro (.int x), .fro (.int ((1 : Nat) : Int)), .fro (.str s), .fro (.str so), .fro (.int (j : Int)), z9, z10, z11] = .nx [a0, a1, .own (.lst (lv.map .str)), .own (.lst (ds ++ [.str s])), .fro (.int x), .fro (.int ((1 : Nat) : Int)), .fro (.str s), .fro (.str so), .fro (.int (j : Int)), z9, z10, z11] := by
  simp [tailK, hd, fnRun, ownIn, mSeq, mIfS, outOf, outOfB, outOfL, mOp, mB, mCon, mVar, mMov, mRet, mRetN, mAsg, mCall, borL, afterB, goneB, mTup, mLst, froL, Sl.d, Sl.sh, Sl.lk, ops, RS.bind, mNext, clean, mNot, mAnd, mOr, mAndV, mOrV, mNotV, mDrop, mTru, truD, mInt, mDnew, M.addI, subD, intD2, M.intD, maxD, minD, fn1, fn2, cmpD, ltD, leD, gtD, geD, negD, mUnp, setAll, mAug, mAppend, mPop, mSetI, mFor, mSrc, srcF, enmF]
theorem tail2 {a0 a1 z9 z10 z11 : Sl} {lv : List Str} {ds : List D} {x : Int} {s so : Str} {j m : Nat} {d : D} (f10 : ixD [.lst ds, .int (j : Int)] = some (.fro d)) (f11 : ixN ds.length (j : Int) = some m) :
    tailK [a0, a1, .own (.lst (lv.map .str)), .own (.lst ds), .fro (.int x), .fro (.int ((2 : Nat) : Int)), .fro (.str s), .fro (.str so), .fro (.int (j : Int)), z9, z10, z11] = .nx [a0, a1, .own (.lst (lv.map .str)), .own (.lst (ds.set m (.tup [.str so, .str s, d]))), .fro (.int x), .fro (.int ((2 : Nat) : Int)), .fro (.str s), .fro (.str so), .fro (.int (j : Int)), z9, z10, z11] := by
  simp [tailK, f10, f11, fnRun, ownIn, mSeq, mIfS, outOf, outOfB, outOfL, mOp, mB, mCon, mVar, mMov, mRet, mRetN, mAsg, mCall, borL, afterB, goneB, mTup, mLst, froL, Sl.d, Sl.sh, Sl.lk, ops, RS.bind, mNext, clean, mNot, mAnd, mOr, mAndV, mOrV, mNotV, mDrop, mTru, truD, mInt, mDnew, M.addI, subD, intD2, M.intD, maxD, minD, fn1, fn2, cmpD, ltD, leD, gtD, geD, negD, mUnp, setAll, mAug, mAppend, mPop, mSetI, mFor, mSrc, srcF, enmF]
theorem tail3 {a0 a1 z9 z10 z11 : Sl} {lv : List Str} {ds ds' : List D} {x : Int} {s so : Str} {j : Nat} {da db : D} (hl : 1 < ds.length) (h1 : ds[ds.length - 1]? = some db) (h2 : ds.dropLast = ds') (h3 : ds'[ds'.length - 1]? = some da) :
    tailK [a0, a1, .own (.lst (lv.map .str)), .own (.lst ds), .fro (.int x), .fro (.int ((3 : Nat) : Int)), .fro (.str s), .fro (.str so), .fro (.int (j : Int)), z9, z10, z11] = .nx [a0, a1, .own (.lst (lv.map .str)), .own (.lst (ds'.set (ds'.length - 1) (.tup [.str so, da, db]))), .fro (.int x), .fro (.int ((3 : Nat) : Int)), .fro (.str s), .fro (.str so), .fro (.int (j : Int)), .fro db, z10, z11] := by
  obtain ⟨h4, h5⟩ := ix_last h3
  have hl' : (1 : Int) < (ds.length : Int) := by omega
  simp [tailK, len_lst, hl, hl', h1, h2, h4, h5, fnRun, ownIn, mSeq, mIfS, outOf, outOfB, outOfL, mOp, mB, mCon, mVar, mMov, mRet, mRetN, mAsg, mCall, borL, afterB, goneB, mTup, mLst, froL, Sl.d, Sl.sh, Sl.lk, ops, RS.bind, mNext, clean, mNot, mAnd, mOr, mAndV, mOrV, mNotV, mDrop, mTru, truD, mInt, mDnew, M.addI, subD, intD2, M.intD, maxD, minD, fn1, fn2, cmpD, ltD, leD, gtD, geD, negD, mUnp, setAll, mAug, mAppend, mPop, mSetI, mFor, mSrc, srcF, enmF]
theorem tail4 {a0 a1 z9 z10 z11 : Sl} {lv : List Str} {ds : List D} {x : Int} {s so : Str} {j m kd : Nat} {d : D} (k0 : kd ≠ 0) (k1 : kd ≠ 1) (k2 : kd ≠ 2) (k3 : kd ≠ 3 ∨ ¬ 1 < ds.length) (f10 : ixD [.lst ds, .int (j : Int)] = some (.fro d)) (f11 : ixN ds.length (j : Int) = some m) :
    tailK [a0, a1, .own (.lst (lv.map .str)), .own (.lst ds), .fro (.int x), .fro (.int (kd : Int)), .fro (.str s), .fro (.str so), .fro (.int (j : Int)), z9, z10, z11] = .nx [a0, a1, .own (.lst (lv.map .str)), .own (.lst (ds.set m (.tup [.str so, d, .str s]))), .fro (.int x), .fro (.int (kd : Int)), .fro (.str s), .fro (.str so), .fro (.int (j : Int)), z9, z10, z11] := by
  have q1 : ¬ (kd : Int) = 1 := by omega
  have q2 : ¬ (kd : Int) = 2 := by omega
  have q3 : ¬ (kd : Int) = 3 ∨ ¬ (1 : Int) < (ds.length : Int) := by omega
  by_cases c : kd = 3
  · have c2 : ¬ 1 < ds.length := k3.resolve_left (fun z => z c)
    have c3 : ¬ (1 : Int) < (ds.length : Int) := by omega
    subst c
    simp [tailK, len_lst, c2, c3, f10, f11, fnRun, ownIn, mSeq, mIfS, outOf, outOfB, outOfL, mOp, mB, mCon, mVar, mMov, mRet, mRetN, mAsg, mCall, borL, afterB, goneB, mTup, mLst, froL, Sl.d, Sl.sh, Sl.lk, ops, RS.bind, mNext, clean, mNot, mAnd, mOr, mAndV, mOrV, mNotV, mDrop, mTru, truD, mInt, mDnew, M.addI, subD, intD2, M.intD, maxD, minD, fn1, fn2, cmpD, ltD, leD, gtD, geD, negD, mUnp, setAll, mAug, mAppend, mPop, mSetI, mFor, mSrc, srcF, enmF]
  · have q4 : ¬ (kd : Int) = 3 := by omega
    simp [tailK, len_lst, k0, k1, k2, c, q1, q2, q4, f10, f11, fnRun, ownIn, mSeq, mIfS, outOf, outOfB, outOfL, mOp, mB, mCon, mVar, mMov, mRet, mRetN, mAsg, mCall, borL, afterB, goneB, mTup, mLst, froL, Sl.d, Sl.sh, Sl.lk, ops, RS.bind, mNext, clean, mNot, mAnd, mOr, mAndV, mOrV, mNotV, mDrop, mTru, truD, mInt, mDnew, M.addI, subD, intD2, M.intD, maxD, minD, fn1, fn2, cmpD, ltD, leD, gtD, geD, negD, mUnp, setAll, mAug, mAppend, mPop, mSetI, mFor, mSrc, srcF, enmF]
theorem tree_step {P : Str → Prop} {a0 a1 z5 z6 z7 z8 z9 z10 z11 : Sl} {lv : List Str} {Ts : List T} {x : Int} {i : Nat} (hlv : ∀ s ∈ lv, (T.leaf s).lv P) (hl0 : 0 < lv.length) (h : PInv P i Ts) (hi : i ≤ 1000) :
    ∃ (Ts' : List T) (y5 y6 y7 y8 y9 : Sl), l0__law_tree [a0, a1, .own (.lst (lv.map .str)), .own (.lst (Ts.map T.enc)), .fro (.int x), z5, z6, z7, z8, z9, z10, z11] =
      .nx [a0, a1, .own (.lst (lv.map .str)), .own (.lst (Ts'.map T.enc)), .fro (.int x), y5, y6, y7, y8, y9, z10, z11] ∧ PInv P (i + 1) Ts' := by
  obtain ⟨hp, hp2⟩ := h.len
  obtain ⟨kd, hkd, f1⟩ : ∃ j : Nat, j < 6 ∧ modD [.int x, .int 6] = some (.fro (.int (j : Int))) := modD_nat x (n := 6) (by omega)
  obtain ⟨q1, f2⟩ := fdivD_ok (a := x) (b := 6) (by decide) (by decide)
  obtain ⟨j1, hj1, f3⟩ := modD_nat q1 hl0
  have f4 : ixD [.lst (lv.map .str), .int (j1 : Int)] = some (.fro (.str lv[j1])) := ix_lst (by rw [List.getElem?_map, List.getElem?_eq_getElem hj1]; rfl)
  have hs := hlv _ (List.getElem_mem hj1)
  generalize lv[j1] = s at *
  obtain ⟨q2, f5⟩ := fdivD_ok (a := x) (b := 60) (by decide) (by decide)
  obtain ⟨j2, hj2, f6⟩ : ∃ j : Nat, j < 3 ∧ modD [.int q2, .int 3] = some (.fro (.int (j : Int))) := modD_nat q2 (n := 3) (by omega)
  obtain ⟨o, f7⟩ := sign_nat hj2
  obtain ⟨q3, f8⟩ := fdivD_ok (a := x) (b := 180) (by decide) (by decide)
  obtain ⟨j, hj, f9⟩ := modD_nat q3 hp
  obtain ⟨ds, hds⟩ : ∃ ds, Ts.map T.enc = ds := ⟨_, rfl⟩
  have hdl : ds.length = Ts.length := by rw [← hds, List.length_map]
  rw [← hdl] at f9
  have f10 : ixD [.lst ds, .int (j : Int)] = some (.fro Ts[j].enc) := ix_lst (by rw [← hds, List.getElem?_map, List.getElem?_eq_getElem hj]; rfl)
  have f11 : ixN ds.length (j : Int) = some j := ixN_nat' (by omega)
  have hset : ∀ t : T, ds.set j t.enc = (Ts.set j t).map T.enc := fun t => by rw [← hds, List.map_set]
  have hat := h.2.1 Ts[j] (List.getElem_mem hj)
  have hd24 : ds.length < 16777216 := by omega
  rw [hds]
  have pre : ∀ r : Out, tailK [a0, a1, .own (.lst (lv.map .str)), .own (.lst ds), .fro (.int x), .fro (.int (kd : Int)), .fro (.str s), .fro (.str (opS o)), .fro (.int (j : Int)), z9, z10, z11] = r → l0__law_tree [a0, a1, .own (.lst (lv.map .str)), .own (.lst ds), .fro (.int x), z5, z6, z7, z8, z9, z10, z11] = r := fun r hr =>
    seq_run (e1 := [a0, a1, .own (.lst (lv.map .str)), .own (.lst ds), .fro (.int x), .fro (.int (kd : Int)), z6, z7, z8, z9, z10, z11]) (by simp [f1, fnRun, ownIn, mSeq, mIfS, outOf, outOfB, outOfL, mOp, mB, mCon, mVar, mMov, mRet, mRetN, mAsg, mCall, borL, afterB, goneB, mTup, mLst, froL, Sl.d, Sl.sh, Sl.lk, ops, RS.bind, mNext, clean, mNot, mAnd, mOr, mAndV, mOrV, mNotV, mDrop, mTru, truD, mInt, mDnew, M.addI, subD, intD2, M.intD, maxD, minD, fn1, fn2, cmpD, ltD, leD, gtD, geD, negD, mUnp, setAll, mAug, mAppend, mPop, mSetI, mFor, mSrc, srcF, enmF])
      (seq_run (e1 := [a0, a1, .own (.lst (lv.map .str)), .own (.lst ds), .fro (.int x), .fro (.int (kd : Int)), .fro (.str s), z7, z8, z9, z10, z11]) (by simp [f2, f3, f4, len_lst, fnRun, ownIn, mSeq, mIfS, outOf, outOfB, outOfL, mOp, mB, mCon, mVar, mMov, mRet, mRetN, mAsg, mCall, borL, afterB, goneB, mTup, mLst, froL, Sl.d, Sl.sh, Sl.lk, ops, RS.bind, mNext, clean, mNot, mAnd, mOr, mAndV, mOrV, mNotV, mDrop, mTru, truD, mInt, mDnew, M.addI, subD, intD2, M.intD, maxD, minD, fn1, fn2, cmpD, ltD, leD, gtD, geD, negD, mUnp, setAll, mAug, mAppend, mPop, mSetI, mFor, mSrc, srcF, enmF])
      (seq_run (e1 := [a0, a1, .own (.lst (lv.map .str)), .own (.lst ds), .fro (.int x), .fro (.int (kd : Int)), .fro (.str s), .fro (.str (opS o)), z8, z9, z10, z11]) (by simp [f5, f6, f7, fnRun, ownIn, mSeq, mIfS, outOf, outOfB, outOfL, mOp, mB, mCon, mVar, mMov, mRet, mRetN, mAsg, mCall, borL, afterB, goneB, mTup, mLst, froL, Sl.d, Sl.sh, Sl.lk, ops, RS.bind, mNext, clean, mNot, mAnd, mOr, mAndV, mOrV, mNotV, mDrop, mTru, truD, mInt, mDnew, M.addI, subD, intD2, M.intD, maxD, minD, fn1, fn2, cmpD, ltD, leD, gtD, geD, negD, mUnp, setAll, mAug, mAppend, mPop, mSetI, mFor, mSrc, srcF, enmF])
      (seq_run (e1 := [a0, a1, .own (.lst (lv.map .str)), .own (.lst ds), .fro (.int x), .fro (.int (kd : Int)), .fro (.str s), .fro (.str (opS o)), .fro (.int (j : Int)), z9, z10, z11]) (by simp [f8, f9, len_lst, fnRun, ownIn, mSeq, mIfS, outOf, outOfB, outOfL, mOp, mB, mCon, mVar, mMov, mRet, mRetN, mAsg, mCall, borL, afterB, goneB, mTup, mLst, froL, Sl.d, Sl.sh, Sl.lk, ops, RS.bind, mNext, clean, mNot, mAnd, mOr, mAndV, mOrV, mNotV, mDrop, mTru, truD, mInt, mDnew, M.addI, subD, intD2, M.intD, maxD, minD, fn1, fn2, cmpD, ltD, leD, gtD, geD, negD, mUnp, setAll, mAug, mAppend, mPop, mSetI, mFor, mSrc, srcF, enmF]) hr)))
  by_cases k0 : kd = 0
  · subst k0
    exact ⟨Ts.set j (.neg Ts[j]), _, _, _, _, _, by rw [← hset]; exact pre _ (tail0 f10 f11), h.set hj hat.1 (by simp only [T.dep]; omega) (by simp only [T.size]; omega)⟩
  by_cases k1 : kd = 1
  · subst k1
    exact ⟨Ts ++ [.leaf s], _, _, _, _, _, by rw [List.map_append, hds]; exact pre _ (tail1 hd24), h.push hs rfl (by simp only [T.size]; omega)⟩
  by_cases k2 : kd = 2
  · subst k2
    exact ⟨Ts.set j (.bin o (.leaf s) Ts[j]), _, _, _, _, _, by rw [← hset]; exact pre _ (tail2 f10 f11), h.set hj ⟨hs, hat.1⟩ (by simp only [T.dep]; omega) (by simp only [T.size]; omega)⟩
  by_cases k3 : kd = 3 ∧ 1 < ds.length
  · obtain ⟨k3, hl2⟩ := k3
    subst k3
    obtain ⟨l, a, b, e⟩ := two_last (Ts := Ts) (by omega)
    subst e
    have g1 : ds[ds.length - 1]? = some b.enc := by rw [← hds]; simp
    have g2 : ds.dropLast = (l ++ [a]).map T.enc := by rw [← hds]; simp
    have g3 : ((l ++ [a]).map T.enc)[((l ++ [a]).map T.enc).length - 1]? = some a.enc := by simp
    have e3 : ((l ++ [a]).map T.enc).set (((l ++ [a]).map T.enc).length - 1) (.tup [.str (opS o), a.enc, b.enc]) = (l ++ [T.bin o a b]).map T.enc := by
      simp [T.enc]
    exact ⟨l ++ [.bin o a b], _, _, _, _, _, by rw [← e3]; exact pre _ (tail3 hl2 g1 g2 g3), h.merge⟩
  · exact ⟨Ts.set j (.bin o Ts[j] (.leaf s)), _, _, _, _, _, by rw [← hset]; exact pre _ (tail4 k0 k1 k2 (by omega) f10 f11), h.set hj ⟨hat.1, hs⟩ (by simp only [T.dep]; omega) (by simp only [T.size]; omega)⟩
end K83

set_option Elab.async false
set_option linter.all false
set_option maxRecDepth 100000
set_option maxHeartbeats 2000000
namespace M
open PySem PySem.Spec L2
theorem sl10_1 {ds : List D} : sl10 [.lst ds, .int 1] = some (.own (.lst (ds.drop 1))) := by
  simp only [sl10, sliceD]
  rw [show (1 : Int) = ((1 : Nat) : Int) from rfl, cutL_from]
end M
namespace K83
open PySem PySem.Spec L2 M
theorem tree_loop {P : Str → Prop} {a0 a1 z10 z11 : Sl} {lv : List Str} (hlv : ∀ s ∈ lv, (T.leaf s).lv P) (hl0 : 0 < lv.length) : ∀ (L : List Int) (Ts : List T) (i : Nat) (z4 z5 z6 z7 z8 z9 : Sl), PInv P i Ts → i + L.length ≤ 1000 →
    ∃ (Ts' : List T) (y4 y5 y6 y7 y8 y9 : Sl), Goes (tgN 4) l0__law_tree (L.map .int) [a0, a1, .own (.lst (lv.map .str)), .own (.lst (Ts.map T.enc)), z4, z5, z6, z7, z8, z9, z10, z11]
      [a0, a1, .own (.lst (lv.map .str)), .own (.lst (Ts'.map T.enc)), y4, y5, y6, y7, y8, y9, z10, z11] ∧ PInv P (i + L.length) Ts'
  | [], Ts, i, z4, z5, z6, z7, z8, z9, h, _ => ⟨Ts, z4, z5, z6, z7, z8, z9, .nil, h⟩
  | x :: L, Ts, i, z4, z5, z6, z7, z8, z9, h, hl => by
    simp only [List.length_cons] at hl
    obtain ⟨T1, y5, y6, y7, y8, y9, e, h1⟩ := tree_step (a0 := a0) (a1 := a1) (z5 := z5) (z6 := z6) (z7 := z7) (z8 := z8) (z9 := z9) (z10 := z10) (z11 := z11) (x := x) hlv hl0 h (by omega)
    obtain ⟨T2, w4, w5, w6, w7, w8, w9, g, h2⟩ := tree_loop hlv hl0 L T1 (i + 1) (.fro (.int x)) y5 y6 y7 y8 y9 h1 (by omega)
    refine ⟨T2, w4, w5, w6, w7, w8, w9, .cons rfl e g, ?_⟩
    rw [List.length_cons, show i + (L.length + 1) = i + 1 + L.length by omega]
    exact h2
theorem fold_loop {P : Str → Prop} {a1 a2 z4 z5 z6 z7 z8 z9 : Sl} {ns : List Int} {ds : List D} (h0 : 0 < ns.length) (B : Nat) : ∀ (L : List T) (cur : T) (z11 : Sl), (∀ t ∈ L, t.lv P ∧ t.dep ≤ B) → cur.lv P → B ≤ cur.dep + B →
    ∃ (res : T) (y11 : Sl), Goes (tgN 11) l1__law_tree (L.map T.enc) [.fro (.lst (ns.map .int)), a1, a2, .own (.lst ds), z4, z5, z6, z7, z8, z9, .fro cur.enc, z11] [.fro (.lst (ns.map .int)), a1, a2, .own (.lst ds), z4, z5, z6, z7, z8, z9, .fro res.enc, y11] ∧
      res.lv P ∧ res.dep ≤ max cur.dep B + L.length ∧ res.size ≤ cur.size + (L.map T.size).sum + L.length
  | [], cur, z11, _, h, _ => ⟨cur, z11, .nil, h, by simp; omega, by simp⟩
  | t :: L, cur, z11, hL, h, _ => by
    have n0 : ixD [.lst (ns.map .int), .int 0] = some (.fro (.int ns[0])) := ix_ints (j := 0) h0
    obtain ⟨j, hj, e1⟩ : ∃ j : Nat, j < 3 ∧ modD [.int ((ds.length : Int) + ns[0]), .int 3] = some (.fro (.int (j : Int))) := modD_nat ((ds.length : Int) + ns[0]) (n := 3) (by omega)
    obtain ⟨o, e2⟩ := sign_nat hj
    have e : l1__law_tree [.fro (.lst (ns.map .int)), a1, a2, .own (.lst ds), z4, z5, z6, z7, z8, z9, .fro cur.enc, .fro t.enc] = .nx [.fro (.lst (ns.map .int)), a1, a2, .own (.lst ds), z4, z5, z6, z7, z8, z9, .fro (T.bin o cur t).enc, .fro t.enc] := by
      simp [l1__law_tree, len_lst, n0, e1, e2, T.enc, fnRun, ownIn, mSeq, mIfS, outOf, outOfB, outOfL, mOp, mB, mCon, mVar, mMov, mRet, mRetN, mAsg, mCall, borL, afterB, goneB, mTup, mLst, froL, Sl.d, Sl.sh, Sl.lk, ops, RS.bind, mNext, clean, mNot, mAnd, mOr, mAndV, mOrV, mNotV, mDrop, mTru, truD, mInt, mDnew, M.addI, subD, intD2, M.intD, maxD, minD, fn1, fn2, cmpD, ltD, leD, gtD, geD, negD, mUnp, setAll, mAug, mAppend, mPop, mSetI, mFor, mSrc, srcF, enmF]
    have ht := hL t List.mem_cons_self
    obtain ⟨res, y, g, q1, q2, q3⟩ := fold_loop (a1 := a1) (a2 := a2) (z4 := z4) (z5 := z5) (z6 := z6) (z7 := z7) (z8 := z8) (z9 := z9) (ds := ds) h0 B L (.bin o cur t) (.fro t.enc) (fun u hu => hL u (List.mem_cons_of_mem _ hu)) ⟨h, ht.1⟩ (by omega)
    refine ⟨res, y, .cons rfl e g, q1, ?_, ?_⟩
    · simp only [T.dep] at q2
      simp only [List.length_cons]
      omega
    · simp only [T.size] at q3
      simp only [List.map_cons, List.sum_cons, List.length_cons]
      omega
theorem leaves_lv {names : List Str} : ∀ s ∈ names ++ (["0", "1", "?"] : List Str), (T.leaf s).lv (· ∈ names) := fun s hs => by
  rcases List.mem_append.mp hs with h | h
  · exact .inr (.inr (.inr h))
  · simp only [List.mem_cons, List.not_mem_nil, or_false] at h
    rcases h with h | h | h
    · exact .inl h
    · exact .inr (.inl h)
    · exact .inr (.inr (.inl h))
theorem run_tree {names : List Str} {ns : List Int} (h0 : 0 < ns.length) (h1 : ns.length ≤ 80) (hn : names.length ≤ 1000) : ∃ t : T, t.lv (· ∈ names) ∧ t.dep < 85 ∧ t.size ≤ 1000 ∧ ∃ o, r__law_tree [.fro (.lst (ns.map .int)), .fro (.lst (names.map .str))] = .ok (.fro t.enc) o := by
  obtain ⟨lv, hlv⟩ : ∃ lv, names ++ (["0", "1", "?"] : List Str) = lv := ⟨_, rfl⟩
  have hll : lv.length = names.length + 3 := by rw [← hlv]; simp
  have hlvs : ∀ s ∈ lv, (T.leaf s).lv (· ∈ names) := hlv ▸ leaves_lv
  have n0 : ixD [.lst (ns.map .int), .int 0] = some (.fro (.int ns[0])) := ix_ints (j := 0) h0
  obtain ⟨j, hj, e1⟩ := modD_nat ns[0] (n := lv.length) (by omega)
  have e2 : ixD [.lst (lv.map .str), .int (j : Int)] = some (.fro (.str lv[j])) := ix_lst (by rw [List.getElem?_map, List.getElem?_eq_getElem hj]; rfl)
  have hs := hlvs _ (List.getElem_mem hj)
  generalize lv[j] = s at *
  have hadd : addD [.lst (names.map .str), .lst [.str "0", .str "1", .str "?"]] = some (.own (.lst (lv.map .str))) := by
    simp only [addD]
    rw [if_pos (by simp; omega), ← hlv, List.map_append]
    rfl
  have i0 : PInv (· ∈ names) 0 [.leaf s] := ⟨by simp, fun t ht => by rw [List.mem_singleton.mp ht]; exact ⟨hs, by simp [T.dep]⟩, by simp [T.size]⟩
  have hrest : (ns.map D.int).drop 1 = (ns.drop 1).map .int := by rw [List.map_drop]
  obtain ⟨Ts, y4, y5, y6, y7, y8, y9, g1, h2⟩ := tree_loop (a0 := .fro (.lst (ns.map .int))) (a1 := .fro (.lst (names.map .str))) (z10 := .non) (z11 := .non) hlvs (by omega) (ns.drop 1) [.leaf s] 0 .non .non .non .non .non .non i0 (by simp; omega)
  have hlen := h2.len
  obtain ⟨q1, q2, q3⟩ := h2
  match Ts, q1 with
  | t0 :: parts, _ =>
    have ht0 := q2 t0 List.mem_cons_self
    simp only [List.length_cons, List.length_drop] at ht0 hlen
    obtain ⟨res, y11, g2, r1, r2, r3⟩ := fold_loop (P := (· ∈ names)) (a1 := .fro (.lst (names.map .str))) (a2 := .own (.lst (lv.map .str))) (z4 := y4) (z5 := y5) (z6 := y6) (z7 := y7) (z8 := y8) (z9 := y9) (ds := (t0 :: parts).map T.enc) h0 (79 - parts.length) parts t0 .non
      (fun t ht => by
        have := q2 t (List.mem_cons_of_mem _ ht)
        simp only [List.length_cons, List.length_drop] at this
        exact ⟨this.1, by omega⟩) ht0.1 (by omega)
    simp only [List.map_cons, List.sum_cons, List.length_drop] at q3
    refine ⟨res, r1, by omega, by omega, [.fro (.lst (ns.map .int)), .fro (.lst (names.map .str)), .own (.lst (lv.map .str)), .own (.lst ((t0 :: parts).map T.enc)), y4, y5, y6, y7, y8, y9, .fro res.enc, y11], ?_⟩
    have ix0 : ixD [.lst ((t0 :: parts).map T.enc), .int 0] = some (.fro t0.enc) := ix_lst (j := 0) rfl
    have dr : ((t0 :: parts).map T.enc).drop 1 = parts.map T.enc := rfl
    refine fn_run rfl rfl (seq_run (e1 := [.fro (.lst (ns.map .int)), .fro (.lst (names.map .str)), .own (.lst (lv.map .str)), .non, .non, .non, .non, .non, .non, .non, .non, .non]) (by simp [hadd, fnRun, ownIn, mSeq, mIfS, outOf, outOfB, outOfL, mOp, mB, mCon, mVar, mMov, mRet, mRetN, mAsg, mCall, borL, afterB, goneB, mTup, mLst, froL, Sl.d, Sl.sh, Sl.lk, ops, RS.bind, mNext, clean, mNot, mAnd, mOr, mAndV, mOrV, mNotV, mDrop, mTru, truD, mInt, mDnew, M.addI, subD, intD2, M.intD, maxD, minD, fn1, fn2, cmpD, ltD, leD, gtD, geD, negD, mUnp, setAll, mAug, mAppend, mPop, mSetI, mFor, mSrc, srcF, enmF])
      (seq_run (e1 := [.fro (.lst (ns.map .int)), .fro (.lst (names.map .str)), .own (.lst (lv.map .str)), .own (.lst [.str s]), .non, .non, .non, .non, .non, .non, .non, .non]) (by simp [n0, e1, e2, len_lst, fnRun, ownIn, mSeq, mIfS, outOf, outOfB, outOfL, mOp, mB, mCon, mVar, mMov, mRet, mRetN, mAsg, mCall, borL, afterB, goneB, mTup, mLst, froL, Sl.d, Sl.sh, Sl.lk, ops, RS.bind, mNext, clean, mNot, mAnd, mOr, mAndV, mOrV, mNotV, mDrop, mTru, truD, mInt, mDnew, M.addI, subD, intD2, M.intD, maxD, minD, fn1, fn2, cmpD, ltD, leD, gtD, geD, negD, mUnp, setAll, mAug, mAppend, mPop, mSetI, mFor, mSrc, srcF, enmF])
      (seq_run (for_run (src_run (f := srcF) (ss := [.fro (.lst ((ns.map D.int).drop 1))]) (e' := [.fro (.lst (ns.map .int)), .fro (.lst (names.map .str)), .own (.lst (lv.map .str)), .own (.lst [.str s]), .non, .non, .non, .non, .non, .non, .non, .non]) (by simp [sl10_1, fnRun, ownIn, mSeq, mIfS, outOf, outOfB, outOfL, mOp, mB, mCon, mVar, mMov, mRet, mRetN, mAsg, mCall, borL, afterB, goneB, mTup, mLst, froL, Sl.d, Sl.sh, Sl.lk, ops, RS.bind, mNext, clean, mNot, mAnd, mOr, mAndV, mOrV, mNotV, mDrop, mTru, truD, mInt, mDnew, M.addI, subD, intD2, M.intD, maxD, minD, fn1, fn2, cmpD, ltD, leD, gtD, geD, negD, mUnp, setAll, mAug, mAppend, mPop, mSetI, mFor, mSrc, srcF, enmF]) rfl) (by rw [hrest]; exact g1))
      (seq_run (e1 := [.fro (.lst (ns.map .int)), .fro (.lst (names.map .str)), .own (.lst (lv.map .str)), .own (.lst ((t0 :: parts).map T.enc)), y4, y5, y6, y7, y8, y9, .fro t0.enc, .non]) ?_
      (seq_run (for_run (src_run (f := srcF) (ss := [.fro (.lst (((t0 :: parts).map T.enc).drop 1))]) (e' := [.fro (.lst (ns.map .int)), .fro (.lst (names.map .str)), .own (.lst (lv.map .str)), .own (.lst ((t0 :: parts).map T.enc)), y4, y5, y6, y7, y8, y9, .fro t0.enc, .non]) ?_ rfl) (by rw [dr]; exact g2)) rfl)))))
    · generalize (t0 :: parts).map T.enc = ds at *
      simp [ix0, fnRun, ownIn, mSeq, mIfS, outOf, outOfB, outOfL, mOp, mB, mCon, mVar, mMov, mRet, mRetN, mAsg, mCall, borL, afterB, goneB, mTup, mLst, froL, Sl.d, Sl.sh, Sl.lk, ops, RS.bind, mNext, clean, mNot, mAnd, mOr, mAndV, mOrV, mNotV, mDrop, mTru, truD, mInt, mDnew, M.addI, subD, intD2, M.intD, maxD, minD, fn1, fn2, cmpD, ltD, leD, gtD, geD, negD, mUnp, setAll, mAug, mAppend, mPop, mSetI, mFor, mSrc, srcF, enmF]
    · generalize (t0 :: parts).map T.enc = ds at *
      simp [sl10_1, fnRun, ownIn, mSeq, mIfS, outOf, outOfB, outOfL, mOp, mB, mCon, mVar, mMov, mRet, mRetN, mAsg, mCall, borL, afterB, goneB, mTup, mLst, froL, Sl.d, Sl.sh, Sl.lk, ops, RS.bind, mNext, clean, mNot, mAnd, mOr, mAndV, mOrV, mNotV, mDrop, mTru, truD, mInt, mDnew, M.addI, subD, intD2, M.intD, maxD, minD, fn1, fn2, cmpD, ltD, leD, gtD, geD, negD, mUnp, setAll, mAug, mAppend, mPop, mSetI, mFor, mSrc, srcF, enmF]
end K83

set_option Elab.async false
set_option linter.all false
set_option maxRecDepth 100000
set_option maxHeartbeats 2000000
namespace K83
open PySem PySem.Spec L2 M
theorem leaves2_lv {names : List Str} : ∀ s ∈ names ++ (["1", "?"] : List Str), (T.leaf s).lv (· ∈ names) := fun s hs => by
  rcases List.mem_append.mp hs with h | h
  · exact .inr (.inr (.inr h))
  · simp only [List.mem_cons, List.not_mem_nil, or_false] at h
    rcases h with h | h
    · exact .inr (.inl h)
    · exact .inr (.inr (.inl h))
theorem comb_step {a0 z4 : Sl} {names : List Str} {x : Int} {cur : T} (hn : names.length ≤ 1000) (h : cur.lv (· ∈ names)) :
    ∃ (res : T) (y4 : Sl), l0__law_comb [a0, .fro (.lst (names.map .str)), .fro cur.enc, .fro (.int x), z4] = .nx [a0, .fro (.lst (names.map .str)), .fro res.enc, .fro (.int x), y4] ∧ res.lv (· ∈ names) ∧ res.dep ≤ cur.dep + 2 ∧ res.size ≤ cur.size + 3 := by
  obtain ⟨lv, hlv⟩ : ∃ lv, names ++ (["1", "?"] : List Str) = lv := ⟨_, rfl⟩
  have hll : lv.length = names.length + 2 := by rw [← hlv]; simp
  have hlvs : ∀ s ∈ lv, (T.leaf s).lv (· ∈ names) := hlv ▸ leaves2_lv
  have hadd : addD [.lst (names.map .str), .lst [.str "1", .str "?"]] = some (.own (.lst (lv.map .str))) := by
    simp only [addD]
    rw [if_pos (by simp; omega), ← hlv, List.map_append]
    rfl
  obtain ⟨q, e1⟩ := fdivD_ok (a := x) (b := 12) (by decide) (by decide)
  obtain ⟨j, hj, e2'⟩ := modD_nat q (n := names.length + 2) (by omega)
  have e2 : modD [.int q, .int ((names.length : Int) + 2)] = some (.fro (.int (j : Int))) := by
    rw [show ((names.length : Int) + 2) = ((names.length + 2 : Nat) : Int) by omega]
    exact e2'
  have e3 : ixD [.lst (lv.map .str), .int (j : Int)] = some (.fro (.str lv[j])) := ix_lst (by rw [List.getElem?_map, List.getElem?_eq_getElem (by omega)]; rfl)
  have hs := hlvs _ (List.getElem_mem (show j < lv.length by omega))
  generalize lv[j] = s at *
  obtain ⟨j2, hj2, e4⟩ : ∃ j : Nat, j < 3 ∧ modD [.int x, .int 3] = some (.fro (.int (j : Int))) := modD_nat x (n := 3) (by omega)
  obtain ⟨o, e5⟩ := sign_nat hj2
  obtain ⟨q2, e6⟩ := fdivD_ok (a := x) (b := 3) (by decide) (by decide)
  obtain ⟨j3, hj3, e7⟩ : ∃ j : Nat, j < 4 ∧ modD [.int q2, .int 4] = some (.fro (.int (j : Int))) := modD_nat q2 (n := 4) (by omega)
  have pre : ∀ r : Out, (mIfS (mB (mOp [.val (mOp [.val (mOp [.val (mOp [.pk 3, .val (mCon (.int 3))] fdivD)] M.intD), .val (mCon (.int 4))] modD), .val (mCon (.int 0))] (eqD false))) (mAsg 2 (mTup [.val (mCon (.str "!")), .val (mVar 2)])) mNext) [a0, .fro (.lst (names.map .str)), .fro (.tup [.str (opS o), .str s, cur.enc]), .fro (.int x), .fro (.str s)] = r →
      l0__law_comb [a0, .fro (.lst (names.map .str)), .fro cur.enc, .fro (.int x), z4] = r := fun r hr =>
    seq_run (e1 := [a0, .fro (.lst (names.map .str)), .fro cur.enc, .fro (.int x), .fro (.str s)]) (by simp [hadd, e1, e2, e3, len_lst, fnRun, ownIn, mSeq, mIfS, outOf, outOfB, outOfL, mOp, mB, mCon, mVar, mMov, mRet, mRetN, mAsg, mCall, borL, afterB, goneB, mTup, mLst, froL, Sl.d, Sl.sh, Sl.lk, ops, RS.bind, mNext, clean, mNot, mAnd, mOr, mAndV, mOrV, mNotV, mDrop, mTru, truD, mInt, mDnew, M.addI, subD, intD2, M.intD, maxD, minD, fn1, fn2, cmpD, ltD, leD, gtD, geD, negD, mUnp, setAll, mAug, mAppend, mPop, mSetI, mFor, mSrc, srcF, enmF])
      (seq_run (e1 := [a0, .fro (.lst (names.map .str)), .fro (.tup [.str (opS o), .str s, cur.enc]), .fro (.int x), .fro (.str s)]) (by simp [e4, e5, fnRun, ownIn, mSeq, mIfS, outOf, outOfB, outOfL, mOp, mB, mCon, mVar, mMov, mRet, mRetN, mAsg, mCall, borL, afterB, goneB, mTup, mLst, froL, Sl.d, Sl.sh, Sl.lk, ops, RS.bind, mNext, clean, mNot, mAnd, mOr, mAndV, mOrV, mNotV, mDrop, mTru, truD, mInt, mDnew, M.addI, subD, intD2, M.intD, maxD, minD, fn1, fn2, cmpD, ltD, leD, gtD, geD, negD, mUnp, setAll, mAug, mAppend, mPop, mSetI, mFor, mSrc, srcF, enmF]) hr)
  by_cases c : j3 = 0
  · exact ⟨.neg (.bin o (.leaf s) cur), .fro (.str s), pre _ (by simp [e6, e7, c, T.enc, fnRun, ownIn, mSeq, mIfS, outOf, outOfB, outOfL, mOp, mB, mCon, mVar, mMov, mRet, mRetN, mAsg, mCall, borL, afterB, goneB, mTup, mLst, froL, Sl.d, Sl.sh, Sl.lk, ops, RS.bind, mNext, clean, mNot, mAnd, mOr, mAndV, mOrV, mNotV, mDrop, mTru, truD, mInt, mDnew, M.addI, subD, intD2, M.intD, maxD, minD, fn1, fn2, cmpD, ltD, leD, gtD, geD, negD, mUnp, setAll, mAug, mAppend, mPop, mSetI, mFor, mSrc, srcF, enmF]), ⟨hs, h⟩, by simp only [T.dep]; omega, by simp only [T.size]; omega⟩
  · exact ⟨.bin o (.leaf s) cur, .fro (.str s), pre _ (by simp [e6, e7, c, T.enc, fnRun, ownIn, mSeq, mIfS, outOf, outOfB, outOfL, mOp, mB, mCon, mVar, mMov, mRet, mRetN, mAsg, mCall, borL, afterB, goneB, mTup, mLst, froL, Sl.d, Sl.sh, Sl.lk, ops, RS.bind, mNext, clean, mNot, mAnd, mOr, mAndV, mOrV, mNotV, mDrop, mTru, truD, mInt, mDnew, M.addI, subD, intD2, M.intD, maxD, minD, fn1, fn2, cmpD, ltD, leD, gtD, geD, negD, mUnp, setAll, mAug, mAppend, mPop, mSetI, mFor, mSrc, srcF, enmF]), ⟨hs, h⟩, by simp only [T.dep]; omega, by simp only [T.size]; omega⟩
theorem comb_loop {a0 : Sl} {names : List Str} (hn : names.length ≤ 1000) : ∀ (L : List Int) (cur : T) (z3 z4 : Sl), cur.lv (· ∈ names) →
    ∃ (res : T) (y3 y4 : Sl), Goes (tgN 3) l0__law_comb (L.map .int) [a0, .fro (.lst (names.map .str)), .fro cur.enc, z3, z4] [a0, .fro (.lst (names.map .str)), .fro res.enc, y3, y4] ∧ res.lv (· ∈ names) ∧ res.dep ≤ cur.dep + 2 * L.length ∧ res.size ≤ cur.size + 3 * L.length
  | [], cur, z3, z4, h => ⟨cur, z3, z4, .nil, h, by simp, by simp⟩
  | x :: L, cur, z3, z4, h => by
    obtain ⟨r1, y4, e, h1, h2, h3⟩ := comb_step (a0 := a0) (z4 := z4) (x := x) hn h
    obtain ⟨r2, w3, w4, g, k1, k2, k3⟩ := comb_loop hn L r1 (.fro (.int x)) y4 h1
    exact ⟨r2, w3, w4, .cons rfl e g, k1, by simp only [List.length_cons]; omega, by simp only [List.length_cons]; omega⟩
theorem run_comb {names : List Str} {ns : List Int} (h0 : 0 < names.length) (hn : names.length ≤ 1000) (h1 : ns.length ≤ 30) : ∃ t : T, t.lv (· ∈ names) ∧ t.dep ≤ 60 ∧ t.size ≤ 100 ∧ ∃ o, r__law_comb [.fro (.lst (ns.map .int)), .fro (.lst (names.map .str))] = .ok (.fro t.enc) o := by
  have e1 : ixD [.lst (names.map .str), .int 0] = some (.fro (.str names[0])) := ix_lst (j := 0) (by rw [List.getElem?_map, List.getElem?_eq_getElem h0]; rfl)
  obtain ⟨t, y3, y4, g, k1, k2, k3⟩ := comb_loop (a0 := .fro (.lst (ns.map .int))) hn ns (.leaf names[0]) .non .non (.inr (.inr (.inr (List.getElem_mem h0))))
  simp only [T.dep, T.size] at k2 k3
  refine ⟨t, k1, by omega, by omega, [.fro (.lst (ns.map .int)), .fro (.lst (names.map .str)), .fro t.enc, y3, y4], ?_⟩
  exact fn_run rfl rfl (seq_run (e1 := [.fro (.lst (ns.map .int)), .fro (.lst (names.map .str)), .fro (T.leaf names[0]).enc, .non, .non]) (by simp [e1, T.enc, fnRun, ownIn, mSeq, mIfS, outOf, outOfB, outOfL, mOp, mB, mCon, mVar, mMov, mRet, mRetN, mAsg, mCall, borL, afterB, goneB, mTup, mLst, froL, Sl.d, Sl.sh, Sl.lk, ops, RS.bind, mNext, clean, mNot, mAnd, mOr, mAndV, mOrV, mNotV, mDrop, mTru, truD, mInt, mDnew, M.addI, subD, intD2, M.intD, maxD, minD, fn1, fn2, cmpD, ltD, leD, gtD, geD, negD, mUnp, setAll, mAug, mAppend, mPop, mSetI, mFor, mSrc, srcF, enmF]) (seq_run (for_run (src_run (f := srcF) (ops_pk rfl) rfl) g) rfl))
theorem full_step {a0 a2 : Sl} {x : Int} {k : Nat} {cur : T} (hk : k ≤ 1000) : ∃ o : Fin 3, l0__law_full [a0, .fro (.int x), a2, .fro cur.enc, .fro (.int (k : Int))] = .nx [a0, .fro (.int x), a2, .fro (T.bin o cur cur).enc, .fro (.int (k : Int))] := by
  obtain ⟨q, e1⟩ := fdivD_ok (a := x) (b := 1 + (k : Int)) (by omega) (by omega)
  obtain ⟨j, hj, e2⟩ : ∃ j : Nat, j < 3 ∧ modD [.int q, .int 3] = some (.fro (.int (j : Int))) := modD_nat q (n := 3) (by omega)
  obtain ⟨o, e3⟩ := sign_nat hj
  exact ⟨o, by simp [l0__law_full, e1, e2, e3, T.enc, fnRun, ownIn, mSeq, mIfS, outOf, outOfB, outOfL, mOp, mB, mCon, mVar, mMov, mRet, mRetN, mAsg, mCall, borL, afterB, goneB, mTup, mLst, froL, Sl.d, Sl.sh, Sl.lk, ops, RS.bind, mNext, clean, mNot, mAnd, mOr, mAndV, mOrV, mNotV, mDrop, mTru, truD, mInt, mDnew, M.addI, subD, intD2, M.intD, maxD, minD, fn1, fn2, cmpD, ltD, leD, gtD, geD, negD, mUnp, setAll, mAug, mAppend, mPop, mSetI, mFor, mSrc, srcF, enmF]⟩
theorem full_loop {P : Str → Prop} {a0 a2 : Sl} {x : Int} : ∀ (L : List Nat) (cur : T) (z : Sl), (∀ k ∈ L, k ≤ 1000) → cur.lv P →
    ∃ (res : T) (y : Sl), Goes (tgN 4) l0__law_full ((L.map fun i : Nat => (i : Int)).map .int) [a0, .fro (.int x), a2, .fro cur.enc, z] [a0, .fro (.int x), a2, .fro res.enc, y] ∧ res.lv P ∧ res.dep = cur.dep + L.length ∧ res.size + 1 = (cur.size + 1) * 2 ^ L.length
  | [], cur, z, _, h => ⟨cur, z, .nil, h, rfl, by simp⟩
  | k :: L, cur, z, hL, h => by
    obtain ⟨o, e⟩ := full_step (a0 := a0) (a2 := a2) (x := x) (cur := cur) (hL k List.mem_cons_self)
    obtain ⟨res, y, g, k1, k2, k3⟩ := full_loop (a0 := a0) (a2 := a2) (x := x) L (.bin o cur cur) (.fro (.int (k : Int))) (fun i hi => hL i (List.mem_cons_of_mem _ hi)) ⟨h, h⟩
    refine ⟨res, y, .cons rfl e g, k1, ?_, ?_⟩
    · simp only [T.dep] at k2
      simp only [List.length_cons]
      omega
    · rw [k3, List.length_cons, Nat.pow_succ]
      simp only [T.size]
      rw [show cur.size + cur.size + 1 + 1 = (cur.size + 1) * 2 by omega, Nat.mul_assoc, Nat.mul_comm 2]
theorem run_full {names : List Str} {x : Int} {d : Nat} (h0 : 0 < names.length) (hd : d ≤ 5) : ∃ t : T, t.lv (· ∈ names) ∧ t.dep ≤ 5 ∧ t.size ≤ 100 ∧ ∃ o, r__law_full [.fro (.int (d : Int)), .fro (.int x), .fro (.lst (names.map .str))] = .ok (.fro t.enc) o := by
  obtain ⟨j, hj, e1⟩ := modD_nat x h0
  have e2 : ixD [.lst (names.map .str), .int (j : Int)] = some (.fro (.str names[j])) := ix_lst (by rw [List.getElem?_map, List.getElem?_eq_getElem hj]; rfl)
  have hs := List.getElem_mem hj
  generalize names[j] = s at *
  obtain ⟨t, y, g, k1, k2, k3⟩ := full_loop (P := (· ∈ names)) (a0 := .fro (.int (d : Int))) (a2 := .fro (.lst (names.map .str))) (x := x) (List.range d) (.leaf s) .non (fun k hk => by have := List.mem_range.mp hk; omega) (.inr (.inr (.inr hs)))
  rw [← rangeD_ints] at g
  simp only [T.dep, T.size, List.length_range] at k2 k3
  have hsz : t.size ≤ 100 := by
    have : (2 : Nat) ^ d ≤ 2 ^ 5 := Nat.pow_le_pow_right (by omega) hd
    omega
  refine ⟨t, k1, by omega, hsz, [.fro (.int (d : Int)), .fro (.int x), .fro (.lst (names.map .str)), .fro t.enc, y], ?_⟩
  exact fn_run rfl rfl (seq_run (e1 := [.fro (.int (d : Int)), .fro (.int x), .fro (.lst (names.map .str)), .fro (T.leaf s).enc, .non]) (by simp [e1, e2, len_lst, T.enc, fnRun, ownIn, mSeq, mIfS, outOf, outOfB, outOfL, mOp, mB, mCon, mVar, mMov, mRet, mRetN, mAsg, mCall, borL, afterB, goneB, mTup, mLst, froL, Sl.d, Sl.sh, Sl.lk, ops, RS.bind, mNext, clean, mNot, mAnd, mOr, mAndV, mOrV, mNotV, mDrop, mTru, truD, mInt, mDnew, M.addI, subD, intD2, M.intD, maxD, minD, fn1, fn2, cmpD, ltD, leD, gtD, geD, negD, mUnp, setAll, mAug, mAppend, mPop, mSetI, mFor, mSrc, srcF, enmF]) (seq_run (for_run (src_rng rfl (by omega)) g) rfl))
theorem run_cell (ns : List Int) (k : Nat) : ∃ (c : Int) (o : En), r__law_cell [.fro (.scr ns), .fro (.int (k : Int))] = .ok (.fro (.int c)) o := by
  by_cases h : k < ns.length
  · have e : ixD [.scr ns, .int (k : Int)] = some (.fro (.int ns[k])) := by
      simp only [ixD, atI, ixN_nat' h, Option.bind_some, List.getElem?_eq_getElem h, Option.map_some]
    have hl : lenD [.scr ns] = some (.fro (.int (ns.length : Int))) := rfl
    exact ⟨ns[k], [.fro (.scr ns), .fro (.int (k : Int))], by simp [r__law_cell, b__law_cell, hl, h, e, fnRun, ownIn, mSeq, mIfS, outOf, outOfB, outOfL, mOp, mB, mCon, mVar, mMov, mRet, mRetN, mAsg, mCall, borL, afterB, goneB, mTup, mLst, froL, Sl.d, Sl.sh, Sl.lk, ops, RS.bind, mNext, clean, mNot, mAnd, mOr, mAndV, mOrV, mNotV, mDrop, mTru, truD, mInt, mDnew, M.addI, subD, intD2, M.intD, maxD, minD, fn1, fn2, cmpD, ltD, leD, gtD, geD, negD, mUnp, setAll, mAug, mAppend, mPop, mSetI, mFor, mSrc, srcF, enmF]⟩
  · have hl : lenD [.scr ns] = some (.fro (.int (ns.length : Int))) := rfl
    exact ⟨0, [.fro (.scr ns), .fro (.int (k : Int))], by simp [r__law_cell, b__law_cell, hl, h, fnRun, ownIn, mSeq, mIfS, outOf, outOfB, outOfL, mOp, mB, mCon, mVar, mMov, mRet, mRetN, mAsg, mCall, borL, afterB, goneB, mTup, mLst, froL, Sl.d, Sl.sh, Sl.lk, ops, RS.bind, mNext, clean, mNot, mAnd, mOr, mAndV, mOrV, mNotV, mDrop, mTru, truD, mInt, mDnew, M.addI, subD, intD2, M.intD, maxD, minD, fn1, fn2, cmpD, ltD, leD, gtD, geD, negD, mUnp, setAll, mAug, mAppend, mPop, mSetI, mFor, mSrc, srcF, enmF]⟩
end K83

set_option Elab.async false
set_option linter.all false
set_option maxRecDepth 100000
set_option maxHeartbeats 2000000
namespace K83
open PySem PySem.Spec L2 M
theorem right_step {a0 a1 a3 a5 a6 a7 a8 : Sl} {names : List Str} {bt : List Int} {t : T} {b : Sl} (hb : b = .own (.lst (bt.map .int)) ∨ b = .fro (.lst (bt.map .int))) (F : Fine (· ∈ names) t) (hl : names.length ≤ bt.length) (hn : bt.length ≤ 1000) :
    l0_law [a0, a1, .fro (.lst (names.map .str)), a3, b, a5, a6, a7, a8, .fro t.enc] = .nx [a0, a1, .fro (.lst (names.map .str)), a3, .fro (.lst (bt.map .int)), a5, a6, a7, a8, .fro t.enc] := by
  obtain ⟨o, e⟩ := run_right F hl hn
  rcases hb with rfl | rfl
  · simp [l0_law, e, fnRun, ownIn, mSeq, mIfS, outOf, outOfB, outOfL, mOp, mB, mCon, mVar, mMov, mRet, mRetN, mAsg, mCall, borL, afterB, goneB, mTup, mLst, froL, Sl.d, Sl.sh, Sl.lk, ops, RS.bind, mNext, clean, mNot, mAnd, mOr, mAndV, mOrV, mNotV, mDrop, mTru, truD, mInt, mDnew, M.addI, subD, intD2, M.intD, maxD, minD, fn1, fn2, cmpD, ltD, leD, gtD, geD, negD, mUnp, setAll, mAug, mAppend, mPop, mSetI, mFor, mSrc, srcF, enmF]
  · simp [l0_law, e, fnRun, ownIn, mSeq, mIfS, outOf, outOfB, outOfL, mOp, mB, mCon, mVar, mMov, mRet, mRetN, mAsg, mCall, borL, afterB, goneB, mTup, mLst, froL, Sl.d, Sl.sh, Sl.lk, ops, RS.bind, mNext, clean, mNot, mAnd, mOr, mAndV, mOrV, mNotV, mDrop, mTru, truD, mInt, mDnew, M.addI, subD, intD2, M.intD, maxD, minD, fn1, fn2, cmpD, ltD, leD, gtD, geD, negD, mUnp, setAll, mAug, mAppend, mPop, mSetI, mFor, mSrc, srcF, enmF]
theorem law_true : ∀ ns : List Int, ns.length ≤ 63 → ∃ outs, r_law [.fro (.scr ns)] = .ok (.fro (.bl true)) outs := by
  intro ns _
  obtain ⟨c0, oc0, ec0⟩ := run_cell ns 0
  obtain ⟨c1, oc1, ec1⟩ := run_cell ns 1
  obtain ⟨c2, oc2, ec2⟩ := run_cell ns 2
  obtain ⟨c3, oc3, ec3⟩ := run_cell ns 3
  obtain ⟨c4, oc4, ec4⟩ := run_cell ns 4
  obtain ⟨pl, hpl, o1, e1⟩ := run_numbers (cell := c0) (base := 5040) (n := 8) (by decide) (by decide) (by omega)
  have p0 : ixD [.lst (pl.map .int), .int 0] = some (.fro (.int pl[0])) := ix_ints (j := 0) (by omega)
  have p1 : ixD [.lst (pl.map .int), .int 1] = some (.fro (.int pl[1])) := ix_ints (j := 1) (by omega)
  have p2 : ixD [.lst (pl.map .int), .int 2] = some (.fro (.int pl[2])) := ix_ints (j := 2) (by omega)
  have p3 : ixD [.lst (pl.map .int), .int 3] = some (.fro (.int pl[3])) := ix_ints (j := 3) (by omega)
  have p4 : ixD [.lst (pl.map .int), .int 4] = some (.fro (.int pl[4])) := ix_ints (j := 4) (by omega)
  have p5 : ixD [.lst (pl.map .int), .int 5] = some (.fro (.int pl[5])) := ix_ints (j := 5) (by omega)
  have p6 : ixD [.lst (pl.map .int), .int 6] = some (.fro (.int pl[6])) := ix_ints (j := 6) (by omega)
  have p7 : ixD [.lst (pl.map .int), .int 7] = some (.fro (.int pl[7])) := ix_ints (j := 7) (by omega)
  generalize pl[0] = g0 at *
  generalize pl[1] = g1 at *
  generalize pl[2] = g2 at *
  generalize pl[3] = g3 at *
  generalize pl[4] = g4 at *
  generalize pl[5] = g5 at *
  generalize pl[6] = g6 at *
  generalize pl[7] = g7 at *
  obtain ⟨j0, hj0, m0⟩ : ∃ j : Nat, j < 6 ∧ modD [.int g0, .int 6] = some (.fro (.int (j : Int))) := modD_nat g0 (n := 6) (by omega)
  obtain ⟨j1, hj1, m1⟩ : ∃ j : Nat, j < 20 ∧ modD [.int g1, .int 20] = some (.fro (.int (j : Int))) := modD_nat g1 (n := 20) (by omega)
  obtain ⟨j2, hj2, m2⟩ : ∃ j : Nat, j < 8 ∧ modD [.int g2, .int 8] = some (.fro (.int (j : Int))) := modD_nat g2 (n := 8) (by omega)
  obtain ⟨j3, hj3, m3⟩ : ∃ j : Nat, j < 31 ∧ modD [.int g3, .int 31] = some (.fro (.int (j : Int))) := modD_nat g3 (n := 31) (by omega)
  obtain ⟨j4, hj4, m4⟩ : ∃ j : Nat, j < 6 ∧ modD [.int g4, .int 6] = some (.fro (.int (j : Int))) := modD_nat g4 (n := 6) (by omega)
  obtain ⟨j6, hj6, m6⟩ : ∃ j : Nat, j < 3 ∧ modD [.int g6, .int 3] = some (.fro (.int (j : Int))) := modD_nat g6 (n := 3) (by omega)
  obtain ⟨j7, hj7, m7⟩ : ∃ j : Nat, j < 2 ∧ modD [.int g7, .int 2] = some (.fro (.int (j : Int))) := modD_nat g7 (n := 2) (by omega)
  obtain ⟨o, so⟩ := sign_nat hj6
  obtain ⟨names, hnm, o2, e2'⟩ := run_names (cell := c1) (c := 1 + j0) (by omega)
  have e2 : r__law_names [.fro (.int c1), .fro (.int (1 + (j0 : Int)))] = .ok (.own (.lst (names.map .str))) o2 := by
    rw [← e2']
    rfl
  obtain ⟨sz0, hsz0⟩ : ∃ sz0 : Nat, sz0 = 1 + j1 := ⟨_, rfl⟩
  obtain ⟨sz, hsz, hsz1, hsz2⟩ : ∃ sz : Nat, sz = (if j2 = 0 then 80 else sz0) ∧ 1 ≤ sz ∧ sz ≤ 80 := ⟨_, rfl, by split <;> omega, by split <;> omega⟩
  obtain ⟨bt, hbt, o3, e3⟩ := run_numbers (cell := c4) (base := 5040) (n := 60) (by decide) (by decide) (by omega)
  obtain ⟨nt, hnt, o4, e4⟩ := run_numbers (cell := c2) (base := 5040) (n := sz) (by decide) (by decide) (by omega)
  obtain ⟨dr, d1, d2, d3, o5, e5⟩ := run_tree (names := names) (ns := nt) (by omega) (by omega) (by omega)
  obtain ⟨nc, hnc, o6, e6⟩ := run_numbers (cell := c3) (base := 5040) (n := j3) (by decide) (by decide) (by omega)
  obtain ⟨cb, b1, b2, b3, o7, e7⟩ := run_comb (names := names) (ns := nc) (by omega) (by omega) (by omega)
  obtain ⟨fl, f1, f2, f3, o8, e8⟩ := run_full (names := names) (x := g5) (d := j4) (by omega) (by omega)
  obtain ⟨u, v, huv, hT⟩ : ∃ u v : T, (if j7 = 0 then (u = cb ∧ v = fl) else (u = fl ∧ v = cb)) ∧ Fine (· ∈ names) (T.bin o u v) := by
    by_cases c : j7 = 0
    · exact ⟨cb, fl, by rw [if_pos c]; exact ⟨rfl, rfl⟩, ⟨by simp only [T.dep]; omega, by simp only [T.size]; omega, b1, f1⟩⟩
    · exact ⟨fl, cb, by rw [if_neg c]; exact ⟨rfl, rfl⟩, ⟨by simp only [T.dep]; omega, by simp only [T.size]; omega, f1, b1⟩⟩
  have hD : Fine (· ∈ names) dr := ⟨by omega, by omega, d1⟩
  have hC : Fine (· ∈ names) cb := ⟨by omega, by omega, b1⟩
  obtain ⟨os1, es1⟩ := run_sh (.leaf "?") (by decide)
  obtain ⟨nm0, n0⟩ : ∃ nm0 : Str, ixD [.lst (names.map .str), .int 0] = some (.fro (.str nm0)) := ⟨names[0]'(by omega), ix_lst (j := 0) (by rw [List.getElem?_map, List.getElem?_eq_getElem (by omega)]; rfl)⟩
  obtain ⟨os2, es2⟩ := run_sh (.neg (.leaf nm0)) (by simp [T.dep])
  have q2 : eqD false [.tup [.str "!", .str nm0], .tup [.str "!", .str nm0]] = some (.fro (.bl true)) := eq_enc (t := .neg (.leaf nm0)) (by simp [T.dep])
  have es1' : r_shallow [.fro (.str "?")] = .ok (.fro (.str "?")) os1 := es1
  have es2' : r_shallow [.fro (.tup [.str "!", .str nm0])] = .ok (.fro (.tup [.str "!", .str nm0])) os2 := es2
  have ec0' : r__law_cell [.fro (.scr ns), .fro (.int 0)] = .ok (.fro (.int c0)) oc0 := ec0
  have ec1' : r__law_cell [.fro (.scr ns), .fro (.int 1)] = .ok (.fro (.int c1)) oc1 := ec1
  have ec2' : r__law_cell [.fro (.scr ns), .fro (.int 2)] = .ok (.fro (.int c2)) oc2 := ec2
  have ec3' : r__law_cell [.fro (.scr ns), .fro (.int 3)] = .ok (.fro (.int c3)) oc3 := ec3
  have ec4' : r__law_cell [.fro (.scr ns), .fro (.int 4)] = .ok (.fro (.int c4)) oc4 := ec4
  have e1' : r__law_numbers [.fro (.int c0), .fro (.int 5040), .fro (.int 8)] = .ok (.own (.lst (pl.map .int))) o1 := e1
  have e3' : r__law_numbers [.fro (.int c4), .fro (.int 5040), .fro (.int 60)] = .ok (.own (.lst (bt.map .int))) o3 := e3
  have s1 : (mAsg 1 (mCall r__law_numbers [.val (mCall r__law_cell [.pk 0, .val (mCon (.int 0))]), .val (mCon (.int 5040)), .val (mCon (.int 8))])) [.fro (.scr ns), .non, .non, .non, .non, .non, .non, .non, .non, .non] = .nx [.fro (.scr ns), .own (.lst (pl.map .int)), .non, .non, .non, .non, .non, .non, .non, .non] := by simp [ec0', e1', fnRun, ownIn, mSeq, mIfS, outOf, outOfB, outOfL, mOp, mB, mCon, mVar, mMov, mRet, mRetN, mAsg, mCall, borL, afterB, goneB, mTup, mLst, froL, Sl.d, Sl.sh, Sl.lk, ops, RS.bind, mNext, clean, mNot, mAnd, mOr, mAndV, mOrV, mNotV, mDrop, mTru, truD, mInt, mDnew, M.addI, subD, intD2, M.intD, maxD, minD, fn1, fn2, cmpD, ltD, leD, gtD, geD, negD, mUnp, setAll, mAug, mAppend, mPop, mSetI, mFor, mSrc, srcF, enmF]
  have s2 : (mAsg 2 (mCall r__law_names [.val (mCall r__law_cell [.pk 0, .val (mCon (.int 1))]), .val (mOp [.val (mCon (.int 1)), .val (mOp [.val (mOp [.val (mOp [.pk 1, .val (mCon (.int 0))] ixD)] M.intD), .val (mCon (.int 6))] modD)] addD)])) [.fro (.scr ns), .own (.lst (pl.map .int)), .non, .non, .non, .non, .non, .non, .non, .non] = .nx [.fro (.scr ns), .own (.lst (pl.map .int)), .own (.lst (names.map .str)), .non, .non, .non, .non, .non, .non, .non] := by simp [ec1', p0, m0, e2, fnRun, ownIn, mSeq, mIfS, outOf, outOfB, outOfL, mOp, mB, mCon, mVar, mMov, mRet, mRetN, mAsg, mCall, borL, afterB, goneB, mTup, mLst, froL, Sl.d, Sl.sh, Sl.lk, ops, RS.bind, mNext, clean, mNot, mAnd, mOr, mAndV, mOrV, mNotV, mDrop, mTru, truD, mInt, mDnew, M.addI, subD, intD2, M.intD, maxD, minD, fn1, fn2, cmpD, ltD, leD, gtD, geD, negD, mUnp, setAll, mAug, mAppend, mPop, mSetI, mFor, mSrc, srcF, enmF]
  have s3 : (mAsg 3 (mOp [.val (mCon (.int 1)), .val (mOp [.val (mOp [.val (mOp [.pk 1, .val (mCon (.int 1))] ixD)] M.intD), .val (mCon (.int 20))] modD)] addD)) [.fro (.scr ns), .own (.lst (pl.map .int)), .own (.lst (names.map .str)), .non, .non, .non, .non, .non, .non, .non] = .nx [.fro (.scr ns), .own (.lst (pl.map .int)), .own (.lst (names.map .str)), .fro (.int (sz0 : Int)), .non, .non, .non, .non, .non, .non] := by
    rw [hsz0]
    simp [p1, m1, fnRun, ownIn, mSeq, mIfS, outOf, outOfB, outOfL, mOp, mB, mCon, mVar, mMov, mRet, mRetN, mAsg, mCall, borL, afterB, goneB, mTup, mLst, froL, Sl.d, Sl.sh, Sl.lk, ops, RS.bind, mNext, clean, mNot, mAnd, mOr, mAndV, mOrV, mNotV, mDrop, mTru, truD, mInt, mDnew, M.addI, subD, intD2, M.intD, maxD, minD, fn1, fn2, cmpD, ltD, leD, gtD, geD, negD, mUnp, setAll, mAug, mAppend, mPop, mSetI, mFor, mSrc, srcF, enmF]
  have s4 : (mIfS (mB (mOp [.val (mOp [.val (mOp [.val (mOp [.pk 1, .val (mCon (.int 2))] ixD)] M.intD), .val (mCon (.int 8))] modD), .val (mCon (.int 0))] (eqD false)))
  (mAsg 3 (mCon (.int 80)))
  (mNext)) [.fro (.scr ns), .own (.lst (pl.map .int)), .own (.lst (names.map .str)), .fro (.int (sz0 : Int)), .non, .non, .non, .non, .non, .non] = .nx [.fro (.scr ns), .own (.lst (pl.map .int)), .own (.lst (names.map .str)), .fro (.int (sz : Int)), .non, .non, .non, .non, .non, .non] := by
    rw [hsz]
    by_cases c : j2 = 0
    · simp [p2, m2, c, fnRun, ownIn, mSeq, mIfS, outOf, outOfB, outOfL, mOp, mB, mCon, mVar, mMov, mRet, mRetN, mAsg, mCall, borL, afterB, goneB, mTup, mLst, froL, Sl.d, Sl.sh, Sl.lk, ops, RS.bind, mNext, clean, mNot, mAnd, mOr, mAndV, mOrV, mNotV, mDrop, mTru, truD, mInt, mDnew, M.addI, subD, intD2, M.intD, maxD, minD, fn1, fn2, cmpD, ltD, leD, gtD, geD, negD, mUnp, setAll, mAug, mAppend, mPop, mSetI, mFor, mSrc, srcF, enmF]
    · simp [p2, m2, c, fnRun, ownIn, mSeq, mIfS, outOf, outOfB, outOfL, mOp, mB, mCon, mVar, mMov, mRet, mRetN, mAsg, mCall, borL, afterB, goneB, mTup, mLst, froL, Sl.d, Sl.sh, Sl.lk, ops, RS.bind, mNext, clean, mNot, mAnd, mOr, mAndV, mOrV, mNotV, mDrop, mTru, truD, mInt, mDnew, M.addI, subD, intD2, M.intD, maxD, minD, fn1, fn2, cmpD, ltD, leD, gtD, geD, negD, mUnp, setAll, mAug, mAppend, mPop, mSetI, mFor, mSrc, srcF, enmF]
  have s5 : (mAsg 4 (mCall r__law_numbers [.val (mCall r__law_cell [.pk 0, .val (mCon (.int 4))]), .val (mCon (.int 5040)), .val (mCon (.int 60))])) [.fro (.scr ns), .own (.lst (pl.map .int)), .own (.lst (names.map .str)), .fro (.int (sz : Int)), .non, .non, .non, .non, .non, .non] = .nx [.fro (.scr ns), .own (.lst (pl.map .int)), .own (.lst (names.map .str)), .fro (.int (sz : Int)), .own (.lst (bt.map .int)), .non, .non, .non, .non, .non] := by simp [ec4', e3', fnRun, ownIn, mSeq, mIfS, outOf, outOfB, outOfL, mOp, mB, mCon, mVar, mMov, mRet, mRetN, mAsg, mCall, borL, afterB, goneB, mTup, mLst, froL, Sl.d, Sl.sh, Sl.lk, ops, RS.bind, mNext, clean, mNot, mAnd, mOr, mAndV, mOrV, mNotV, mDrop, mTru, truD, mInt, mDnew, M.addI, subD, intD2, M.intD, maxD, minD, fn1, fn2, cmpD, ltD, leD, gtD, geD, negD, mUnp, setAll, mAug, mAppend, mPop, mSetI, mFor, mSrc, srcF, enmF]
  have s6 : (mAsg 5 (mCall r__law_tree [.val (mCall r__law_numbers [.val (mCall r__law_cell [.pk 0, .val (mCon (.int 2))]), .val (mCon (.int 5040)), .val (mVar 3)]), .val (mVar 2)])) [.fro (.scr ns), .own (.lst (pl.map .int)), .own (.lst (names.map .str)), .fro (.int (sz : Int)), .own (.lst (bt.map .int)), .non, .non, .non, .non, .non] = .nx [.fro (.scr ns), .own (.lst (pl.map .int)), .fro (.lst (names.map .str)), .fro (.int (sz : Int)), .own (.lst (bt.map .int)), .fro dr.enc, .non, .non, .non, .non] := by simp [ec2', e4, e5, fnRun, ownIn, mSeq, mIfS, outOf, outOfB, outOfL, mOp, mB, mCon, mVar, mMov, mRet, mRetN, mAsg, mCall, borL, afterB, goneB, mTup, mLst, froL, Sl.d, Sl.sh, Sl.lk, ops, RS.bind, mNext, clean, mNot, mAnd, mOr, mAndV, mOrV, mNotV, mDrop, mTru, truD, mInt, mDnew, M.addI, subD, intD2, M.intD, maxD, minD, fn1, fn2, cmpD, ltD, leD, gtD, geD, negD, mUnp, setAll, mAug, mAppend, mPop, mSetI, mFor, mSrc, srcF, enmF]
  have s7 : (mAsg 6 (mCall r__law_comb [.val (mCall r__law_numbers [.val (mCall r__law_cell [.pk 0, .val (mCon (.int 3))]), .val (mCon (.int 5040)), .val (mOp [.val (mOp [.val (mOp [.pk 1, .val (mCon (.int 3))] ixD)] M.intD), .val (mCon (.int 31))] modD)]), .val (mVar 2)])) [.fro (.scr ns), .own (.lst (pl.map .int)), .fro (.lst (names.map .str)), .fro (.int (sz : Int)), .own (.lst (bt.map .int)), .fro dr.enc, .non, .non, .non, .non] = .nx [.fro (.scr ns), .own (.lst (pl.map .int)), .fro (.lst (names.map .str)), .fro (.int (sz : Int)), .own (.lst (bt.map .int)), .fro dr.enc, .fro cb.enc, .non, .non, .non] := by simp [ec3', p3, m3, e6, e7, fnRun, ownIn, mSeq, mIfS, outOf, outOfB, outOfL, mOp, mB, mCon, mVar, mMov, mRet, mRetN, mAsg, mCall, borL, afterB, goneB, mTup, mLst, froL, Sl.d, Sl.sh, Sl.lk, ops, RS.bind, mNext, clean, mNot, mAnd, mOr, mAndV, mOrV, mNotV, mDrop, mTru, truD, mInt, mDnew, M.addI, subD, intD2, M.intD, maxD, minD, fn1, fn2, cmpD, ltD, leD, gtD, geD, negD, mUnp, setAll, mAug, mAppend, mPop, mSetI, mFor, mSrc, srcF, enmF]
  have s8 : (mAsg 7 (mCall r__law_full [.val (mOp [.val (mOp [.val (mOp [.pk 1, .val (mCon (.int 4))] ixD)] M.intD), .val (mCon (.int 6))] modD), .val (mOp [.pk 1, .val (mCon (.int 5))] ixD), .val (mVar 2)])) [.fro (.scr ns), .own (.lst (pl.map .int)), .fro (.lst (names.map .str)), .fro (.int (sz : Int)), .own (.lst (bt.map .int)), .fro dr.enc, .fro cb.enc, .non, .non, .non] = .nx [.fro (.scr ns), .own (.lst (pl.map .int)), .fro (.lst (names.map .str)), .fro (.int (sz : Int)), .own (.lst (bt.map .int)), .fro dr.enc, .fro cb.enc, .fro fl.enc, .non, .non] := by simp [p4, m4, p5, e8, fnRun, ownIn, mSeq, mIfS, outOf, outOfB, outOfL, mOp, mB, mCon, mVar, mMov, mRet, mRetN, mAsg, mCall, borL, afterB, goneB, mTup, mLst, froL, Sl.d, Sl.sh, Sl.lk, ops, RS.bind, mNext, clean, mNot, mAnd, mOr, mAndV, mOrV, mNotV, mDrop, mTru, truD, mInt, mDnew, M.addI, subD, intD2, M.intD, maxD, minD, fn1, fn2, cmpD, ltD, leD, gtD, geD, negD, mUnp, setAll, mAug, mAppend, mPop, mSetI, mFor, mSrc, srcF, enmF]
  have s9 : (mAsg 8 (mLst [.val (mOp [.val (mCon (.str "&^|")), .val (mOp [.val (mOp [.val (mOp [.pk 1, .val (mCon (.int 6))] ixD)] M.intD), .val (mCon (.int 3))] modD)] ixD), .val (mVar 7), .val (mVar 6)])) [.fro (.scr ns), .own (.lst (pl.map .int)), .fro (.lst (names.map .str)), .fro (.int (sz : Int)), .own (.lst (bt.map .int)), .fro dr.enc, .fro cb.enc, .fro fl.enc, .non, .non] = .nx [.fro (.scr ns), .own (.lst (pl.map .int)), .fro (.lst (names.map .str)), .fro (.int (sz : Int)), .own (.lst (bt.map .int)), .fro dr.enc, .fro cb.enc, .fro fl.enc, .own (.lst [.str (opS o), fl.enc, cb.enc]), .non] := by simp [p6, m6, so, fnRun, ownIn, mSeq, mIfS, outOf, outOfB, outOfL, mOp, mB, mCon, mVar, mMov, mRet, mRetN, mAsg, mCall, borL, afterB, goneB, mTup, mLst, froL, Sl.d, Sl.sh, Sl.lk, ops, RS.bind, mNext, clean, mNot, mAnd, mOr, mAndV, mOrV, mNotV, mDrop, mTru, truD, mInt, mDnew, M.addI, subD, intD2, M.intD, maxD, minD, fn1, fn2, cmpD, ltD, leD, gtD, geD, negD, mUnp, setAll, mAug, mAppend, mPop, mSetI, mFor, mSrc, srcF, enmF]
  have s10 : (mIfS (mB (mOp [.val (mOp [.val (mOp [.val (mOp [.pk 1, .val (mCon (.int 7))] ixD)] M.intD), .val (mCon (.int 2))] modD), .val (mCon (.int 0))] (eqD false)))
  (mAsg 8 (mLst [.val (mOp [.pk 8, .val (mCon (.int 0))] ixD), .val (mVar 6), .val (mVar 7)]))
  (mNext)) [.fro (.scr ns), .own (.lst (pl.map .int)), .fro (.lst (names.map .str)), .fro (.int (sz : Int)), .own (.lst (bt.map .int)), .fro dr.enc, .fro cb.enc, .fro fl.enc, .own (.lst [.str (opS o), fl.enc, cb.enc]), .non] = .nx [.fro (.scr ns), .own (.lst (pl.map .int)), .fro (.lst (names.map .str)), .fro (.int (sz : Int)), .own (.lst (bt.map .int)), .fro dr.enc, .fro cb.enc, .fro fl.enc, .own (.lst [.str (opS o), u.enc, v.enc]), .non] := by
    have ix0 : ∀ a b c : D, ixD [.lst [a, b, c], .int 0] = some (.fro a) := fun a b c => rfl
    by_cases c : j7 = 0
    · rw [if_pos c] at huv
      obtain ⟨rfl, rfl⟩ := huv
      simp [p7, m7, c, ix0, fnRun, ownIn, mSeq, mIfS, outOf, outOfB, outOfL, mOp, mB, mCon, mVar, mMov, mRet, mRetN, mAsg, mCall, borL, afterB, goneB, mTup, mLst, froL, Sl.d, Sl.sh, Sl.lk, ops, RS.bind, mNext, clean, mNot, mAnd, mOr, mAndV, mOrV, mNotV, mDrop, mTru, truD, mInt, mDnew, M.addI, subD, intD2, M.intD, maxD, minD, fn1, fn2, cmpD, ltD, leD, gtD, geD, negD, mUnp, setAll, mAug, mAppend, mPop, mSetI, mFor, mSrc, srcF, enmF]
    · rw [if_neg c] at huv
      obtain ⟨rfl, rfl⟩ := huv
      simp [p7, m7, c, ix0, fnRun, ownIn, mSeq, mIfS, outOf, outOfB, outOfL, mOp, mB, mCon, mVar, mMov, mRet, mRetN, mAsg, mCall, borL, afterB, goneB, mTup, mLst, froL, Sl.d, Sl.sh, Sl.lk, ops, RS.bind, mNext, clean, mNot, mAnd, mOr, mAndV, mOrV, mNotV, mDrop, mTru, truD, mInt, mDnew, M.addI, subD, intD2, M.intD, maxD, minD, fn1, fn2, cmpD, ltD, leD, gtD, geD, negD, mUnp, setAll, mAug, mAppend, mPop, mSetI, mFor, mSrc, srcF, enmF]
  have htup : tupleD [.lst [.str (opS o), u.enc, v.enc]] = some (.fro (T.bin o u v).enc) := rfl
  have hsrc : (mSrc [.val (mLst [.val (mVar 5), .val (mVar 6), .val (mOp [.val (mVar 8)] tupleD)])] srcF) [.fro (.scr ns), .own (.lst (pl.map .int)), .fro (.lst (names.map .str)), .fro (.int (sz : Int)), .own (.lst (bt.map .int)), .fro dr.enc, .fro cb.enc, .fro fl.enc, .own (.lst [.str (opS o), u.enc, v.enc]), .non] = .ok [dr.enc, cb.enc, (T.bin o u v).enc] [.fro (.scr ns), .own (.lst (pl.map .int)), .fro (.lst (names.map .str)), .fro (.int (sz : Int)), .own (.lst (bt.map .int)), .fro dr.enc, .fro cb.enc, .fro fl.enc, .fro (.lst [.str (opS o), u.enc, v.enc]), .non] := by
    simp [htup, fnRun, ownIn, mSeq, mIfS, outOf, outOfB, outOfL, mOp, mB, mCon, mVar, mMov, mRet, mRetN, mAsg, mCall, borL, afterB, goneB, mTup, mLst, froL, Sl.d, Sl.sh, Sl.lk, ops, RS.bind, mNext, clean, mNot, mAnd, mOr, mAndV, mOrV, mNotV, mDrop, mTru, truD, mInt, mDnew, M.addI, subD, intD2, M.intD, maxD, minD, fn1, fn2, cmpD, ltD, leD, gtD, geD, negD, mUnp, setAll, mAug, mAppend, mPop, mSetI, mFor, mSrc, srcF, enmF]
  have hlb : names.length ≤ bt.length := by omega
  have hlb2 : bt.length ≤ 1000 := by omega
  have g : Goes (tgN 9) l0_law [dr.enc, cb.enc, (T.bin o u v).enc] [.fro (.scr ns), .own (.lst (pl.map .int)), .fro (.lst (names.map .str)), .fro (.int (sz : Int)), .own (.lst (bt.map .int)), .fro dr.enc, .fro cb.enc, .fro fl.enc, .fro (.lst [.str (opS o), u.enc, v.enc]), .non] [.fro (.scr ns), .own (.lst (pl.map .int)), .fro (.lst (names.map .str)), .fro (.int (sz : Int)), .fro (.lst (bt.map .int)), .fro dr.enc, .fro cb.enc, .fro fl.enc, .fro (.lst [.str (opS o), u.enc, v.enc]), .fro (T.bin o u v).enc] :=
    .cons rfl (right_step (.inl rfl) hD hlb hlb2) (.cons rfl (right_step (.inr rfl) hC hlb hlb2) (.cons rfl (right_step (.inr rfl) hT hlb hlb2) .nil))
  have s11 : (mFor (mSrc [.val (mLst [.val (mVar 5), .val (mVar 6), .val (mOp [.val (mVar 8)] tupleD)])] srcF) (tgN 9) (l0_law)) [.fro (.scr ns), .own (.lst (pl.map .int)), .fro (.lst (names.map .str)), .fro (.int (sz : Int)), .own (.lst (bt.map .int)), .fro dr.enc, .fro cb.enc, .fro fl.enc, .own (.lst [.str (opS o), u.enc, v.enc]), .non] = .nx [.fro (.scr ns), .own (.lst (pl.map .int)), .fro (.lst (names.map .str)), .fro (.int (sz : Int)), .fro (.lst (bt.map .int)), .fro dr.enc, .fro cb.enc, .fro fl.enc, .fro (.lst [.str (opS o), u.enc, v.enc]), .fro (T.bin o u v).enc] := for_run hsrc g
  have s12 : (mRet (mAndV (mOp [.val (mCall r_shallow [.val (mCon (.str "?"))]), .val (mCon (.str "?"))] (eqD false)) (mOp [.val (mCall r_shallow [.val (mTup [.val (mCon (.str "!")), .val (mOp [.pk 2, .val (mCon (.int 0))] ixD)])]), .val (mTup [.val (mCon (.str "!")), .val (mOp [.pk 2, .val (mCon (.int 0))] ixD)])] (eqD false)))) [.fro (.scr ns), .own (.lst (pl.map .int)), .fro (.lst (names.map .str)), .fro (.int (sz : Int)), .fro (.lst (bt.map .int)), .fro dr.enc, .fro cb.enc, .fro fl.enc, .fro (.lst [.str (opS o), u.enc, v.enc]), .fro (T.bin o u v).enc] = .rt (.fro (.bl true)) [.fro (.scr ns), .own (.lst (pl.map .int)), .fro (.lst (names.map .str)), .fro (.int (sz : Int)), .fro (.lst (bt.map .int)), .fro dr.enc, .fro cb.enc, .fro fl.enc, .fro (.lst [.str (opS o), u.enc, v.enc]), .fro (T.bin o u v).enc] := by simp [es1', n0, es2', q2, fnRun, ownIn, mSeq, mIfS, outOf, outOfB, outOfL, mOp, mB, mCon, mVar, mMov, mRet, mRetN, mAsg, mCall, borL, afterB, goneB, mTup, mLst, froL, Sl.d, Sl.sh, Sl.lk, ops, RS.bind, mNext, clean, mNot, mAnd, mOr, mAndV, mOrV, mNotV, mDrop, mTru, truD, mInt, mDnew, M.addI, subD, intD2, M.intD, maxD, minD, fn1, fn2, cmpD, ltD, leD, gtD, geD, negD, mUnp, setAll, mAug, mAppend, mPop, mSetI, mFor, mSrc, srcF, enmF]
  exact ⟨_, fn_run rfl rfl (seq_run s1 (seq_run s2 (seq_run s3 (seq_run s4 (seq_run s5 (seq_run s6 (seq_run s7 (seq_run s8 (seq_run s9 (seq_run s10 (seq_run s11 s12)))))))))))⟩
end K83

set_option Elab.async false
set_option linter.all false
set_option maxRecDepth 100000
set_option maxHeartbeats 0
open PySem PySem.W PyProof.Rows
set_option maxHeartbeats 0 in
theorem PySem.Challenge.cw_betweentwoclocks_k83_shallow_trees_holds : PySem.Challenge.rw_betweentwoclocks_k83_shallow_trees.Holds := by
  w_on; o_law; k_head; (case hw => w_witness2)
  k_fill
  refine M.walk_M (l := PySem.Challenge.rw_betweentwoclocks_k83_shallow_trees) (n := 63) (k := 182) (x := "script") (fn := K83.r_law) rfl (by decide) rfl ⟨rfl, by decide, by decide⟩ ?F K83.law_true
  case F =>
    intro w mg fa h Y G hmg
    exact K83.law_end (PySem.W.kIn_of Y) G hmg (by unfold M.SaysV; kernel_rfl)


