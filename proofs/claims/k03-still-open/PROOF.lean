import PyProof.Rows.All
import Wide.All
import OpenK.AllK
import Wide.FinOn
import HandS.ForMost
import HandS.ForExc
import HandS.ExcCtx
import HandS.Deep
import HandS.TupAny
import HandS.TupMul
import HandS.Zip
import HandS.IsInst
import HandS.Defaults
import HandS.Style
import KE.GoesEnum
import KE.GoesMore
import HandS.HeadHook2
import KE.SortData
import HandS.Strs
import HandS.SetFor
import HandS.Conv
import HandS.Dict
import HandS.ExcIs
import HandS.HotCalls
import PyProof.StrBlock2
import HandS.HeadEnd
import HandS.Head0
import HandS.Head1
import HandS.Head2
import PyProof.ReprRoads
import PyProof.ReprBulk
import PyProof.Rows.SetFrom
import PyProof.EqAt
import HandS.HeadHook1
import PySem.Challenge.RW_panplan_k03_still_open
set_option Elab.async false
set_option linter.all false
set_option maxRecDepth 100000
set_option maxHeartbeats 4000000
/-! The pure layer: what a def computes over plain data, on top of HandS. -/
namespace PL
open PySem PySem.Spec PyProof.Rows L2

/-! ### results -/
inductive R (α : Type) where
  | ok (a : α)
  | exc (n : Nat)
  | stuck
def R.bind {α β : Type} (r : R α) (k : α → R β) : R β := match r with
  | .ok a => k a
  | .exc n => .exc n
  | .stuck => .stuck
theorem R.bind_ok {α β : Type} (a : α) (k : α → R β) : (R.ok a).bind k = k a := rfl
theorem R.bind_exc {α β : Type} (n : Nat) (k : α → R β) : (R.exc n : R α).bind k = .exc n := rfl
theorem R.bind_stuck {α β : Type} (k : α → R β) : (R.stuck : R α).bind k = .stuck := rfl

abbrev D := PyData

/-! ### what stands for what -/
mutual
inductive Rep (K : PySem.W.Frag) (M : Hp) : V → D → Prop
  | non : Rep K M .non .none
  | bl (b : Bool) : Rep K M (.bl b) (.bool b)
  | int (i : Int) : Rep K M (.int i) (.int i)
  | str (x : Str) : Rep K M (.str x) (.str x)
  | lst {a : Addr} {xs : List V} {ds : List D} : M a = some (.lst xs) → Reps K M xs ds → Rep K M (.ref a) (.list ds)
  /-- the script: read alone -/
  | scr {a : Addr} {xs : List V} {ds : List D} : SqL K M a xs → Reps K M xs ds → Rep K M (.ref a) (.dict [(.none, .list ds)])
  | tup {a : Addr} {xs : List V} {ds : List D} : SqT K M a xs → Reps K M xs ds → Rep K M (.ref a) (.tuple ds)
  | dic {a : Addr} : M a = some (.dK []) → Rep K M (.ref a) (.dict [])
inductive Reps (K : PySem.W.Frag) (M : Hp) : List V → List D → Prop
  | nil : Reps K M [] []
  | cons {v : V} {vs : List V} {d : D} {ds : List D} : Rep K M v d → Reps K M vs ds → Reps K M (v :: vs) (d :: ds)
end
section
variable {K : PySem.W.Frag} {M M' : Hp}
theorem sqT_same (s : Same M M') {a : Addr} {xs : List V} (h : SqT K M a xs) : SqT K M' a xs := by
  rcases h with (h | ⟨o, h⟩) | h
  · exact .inl (.inl (s _ _ h))
  · exact .inl (.inr ⟨o, s _ _ h⟩)
  · exact .inr h
mutual
theorem Rep.same (s : Same M M') : ∀ {v : V} {d : D}, Rep K M v d → Rep K M' v d
  | _, _, .non => .non
  | _, _, .bl b => .bl b
  | _, _, .int i => .int i
  | _, _, .str x => .str x
  | _, _, .lst h r => .lst (s _ _ h) (Reps.same s r)
  | _, _, .scr h r => .scr (s.seq h) (Reps.same s r)
  | _, _, .tup h r => .tup (sqT_same s h) (Reps.same s r)
  | _, _, .dic h => .dic (s _ _ h)
theorem Reps.same (s : Same M M') : ∀ {vs : List V} {ds : List D}, Reps K M vs ds → Reps K M' vs ds
  | _, _, .nil => .nil
  | _, _, .cons h t => .cons (Rep.same s h) (Reps.same s t)
end
theorem Reps.length : ∀ {vs : List V} {ds : List D}, Reps K M vs ds → vs.length = ds.length
  | _, _, .nil => rfl
  | _, _, .cons _ t => congrArg Nat.succ (Reps.length t)
theorem Reps.get : ∀ {vs : List V} {ds : List D} {i : Nat} {d : D}, Reps K M vs ds → ds[i]? = some d → ∃ v, vs[i]? = some v ∧ Rep K M v d
  | _, _, _, _, .nil, e => by simp at e
  | _, _, 0, _, .cons h _, e => by simp at e; subst e; exact ⟨_, rfl, h⟩
  | _, _, i + 1, d, .cons _ t, e => by
    obtain ⟨v, h1, h2⟩ := Reps.get (i := i) (d := d) t (by simpa using e)
    exact ⟨v, by simpa using h1, h2⟩
theorem Reps.append : ∀ {vs ws : List V} {ds es : List D}, Reps K M vs ds → Reps K M ws es → Reps K M (vs ++ ws) (ds ++ es)
  | _, _, _, _, .nil, h => h
  | _, _, _, _, .cons h t, h' => .cons h (Reps.append t h')
theorem Reps.take : ∀ {vs : List V} {ds : List D} (n : Nat), Reps K M vs ds → Reps K M (vs.take n) (ds.take n)
  | _, _, 0, _ => by simp; exact .nil
  | _, _, _ + 1, .nil => by simp; exact .nil
  | _, _, n + 1, .cons h t => .cons h (Reps.take n t)
theorem Reps.drop : ∀ {vs : List V} {ds : List D} (n : Nat), Reps K M vs ds → Reps K M (vs.drop n) (ds.drop n)
  | _, _, 0, h => by simpa using h
  | _, _, _ + 1, .nil => by simp; exact .nil
  | _, _, n + 1, .cons h t => by simpa using Reps.drop n t
theorem Reps.reverse : ∀ {vs : List V} {ds : List D}, Reps K M vs ds → Reps K M vs.reverse ds.reverse
  | _, _, .nil => .nil
  | _, _, .cons h t => by rw [List.reverse_cons, List.reverse_cons]; exact (Reps.reverse t).append (.cons h .nil)
theorem Reps.set {v : V} {d : D} (h : Rep K M v d) : ∀ {vs : List V} {ds : List D} (n : Nat), Reps K M vs ds → Reps K M (vs.set n v) (ds.set n d)
  | _, _, _, .nil => .nil
  | _, _, 0, .cons _ t => .cons h t
  | _, _, n + 1, .cons q t => .cons q (Reps.set h n t)
theorem Reps.erase : ∀ {vs : List V} {ds : List D} (n : Nat), Reps K M vs ds → Reps K M (vs.eraseIdx n) (ds.eraseIdx n)
  | _, _, _, .nil => .nil
  | _, _, 0, .cons _ t => t
  | _, _, n + 1, .cons q t => .cons q (Reps.erase n t)
theorem Reps.ints : ∀ {vs : List V} {ns : List Int}, Reps K M vs (ns.map PyData.int) → vs = ns.map V.int
  | _, [], .nil => rfl
  | _, n :: ns, .cons h t => by
    cases h
    rw [List.map_cons, Reps.ints t]
theorem Reps.of_ints : ∀ (ns : List Int), Reps K M (ns.map V.int) (ns.map PyData.int)
  | [] => .nil
  | n :: ns => .cons (.int n) (Reps.of_ints ns)
theorem Reps.bools : ∀ {vs : List V} {ns : List Bool}, Reps K M vs (ns.map PyData.bool) → vs = ns.map V.bl
  | _, [], .nil => rfl
  | _, n :: ns, .cons h t => by
    cases h
    rw [List.map_cons, Reps.bools t]
mutual
/-- no dict within -/
def noDic : D → Bool
  | .dict _ => false
  | .list xs => noDics xs
  | .tuple xs => noDics xs
  | _ => true
def noDics : List D → Bool
  | [] => true
  | x :: xs => noDic x && noDics xs
end
mutual
theorem Rep.dp : ∀ {v : V} {d : D}, d.canLay0 = true → Rep K M v d → Dp K M v d
  | _, _, _, .non => .non
  | _, _, _, .bl b => .bl b
  | _, _, _, .int i => .int i
  | _, _, _, .str x => .str x
  | _, _, e, .lst h r => .lst (SqL.of h) (Reps.dp (by simpa [PyData.canLay0] using e) r)
  | _, _, e, .scr h r => by simp [PyData.canLay0] at e
  | _, _, e, .tup h r => .tup h (Reps.dp (by simpa [PyData.canLay0] using e) r)
  | _, _, e, .dic h => by simp [PyData.canLay0] at e
theorem Reps.dp : ∀ {vs : List V} {ds : List D}, PyData.canLayAll0 ds = true → Reps K M vs ds → DpAll K M vs ds
  | _, _, _, .nil => .nil
  | v :: vs, d :: ds, e, .cons h t => by
    have e' : PyData.canLay0 d = true ∧ PyData.canLayAll0 ds = true := by simpa [PyData.canLayAll0] using e
    exact .cons (Rep.dp e'.1 h) (Reps.dp e'.2 t)
end
theorem sqL_up {H : Hp} (s : Same M H) {a : Addr} {xs : List V} (h : SqL K M a xs) : SqL K H a xs := s.seq h
mutual
theorem Dp.up {H : Hp} (s : Same M H) : ∀ {v : V} {d : D}, Dp K M v d → Dp K H v d
  | _, _, .non => .non
  | _, _, .bl b => .bl b
  | _, _, .int i => .int i
  | _, _, .str x => .str x
  | _, _, .lst h r => .lst (s.seq h) (DpAll.up s r)
  | _, _, .tup h r => .tup (sqT_same s h) (DpAll.up s r)
theorem DpAll.up {H : Hp} (s : Same M H) : ∀ {vs : List V} {ds : List D}, DpAll K M vs ds → DpAll K H vs ds
  | _, _, .nil => .nil
  | _, _, .cons h t => .cons (Dp.up s h) (DpAll.up s t)
end
end

/-! ### heaps: what may not change, how they grow -/
def imm : HO → Bool
  | .lst _ => true
  | .tup _ => true
  | .frz _ _ => true
  | .dK _ => true
  | _ => false
def isExt : HO → Bool
  | .ext _ => true
  | _ => false
def Keep (b : Bool) (H H' : Hp) : Prop := ∀ a o, H a = some o → H' a = some o ∨ (b = true ∧ isExt o = true ∧ ∃ o', H' a = some o' ∧ isExt o' = true)
theorem Keep.refl {b : Bool} {H : Hp} : Keep b H H := fun _ _ h => .inl h
theorem Keep.of {b : Bool} {H H' : Hp} (s : Same H H') : Keep b H H' := fun a o h => .inl (s a o h)
theorem Keep.trans {b : Bool} {H H1 H2 : Hp} (x : Keep b H H1) (y : Keep b H1 H2) : Keep b H H2 := fun a o h => by
  rcases x a o h with h1 | ⟨hb, he, o', h1, he'⟩
  · exact y a o h1
  · rcases y a o' h1 with h2 | ⟨_, _, o2, h2, he2⟩
    · exact .inr ⟨hb, he, o', h2, he'⟩
    · exact .inr ⟨hb, he, o2, h2, he2⟩
theorem Keep.free {b : Bool} {H H' : Hp} (x : Keep b H H') {a : Addr} (h : H' a = none) : H a = none := by
  cases e : H a with
  | none => rfl
  | some o =>
    rcases x a o e with h1 | ⟨_, _, o', h1, _⟩
    · rw [h] at h1; cases h1
    · rw [h] at h1; cases h1
theorem Keep.same {H H' : Hp} (x : Keep false H H') : Same H H' := fun a o h => by
  rcases x a o h with h1 | ⟨hb, _⟩
  · exact h1
  · cases hb
theorem Keep.at {b : Bool} {H H' : Hp} (x : Keep b H H') {a : Addr} {o : HO} (h : H a = some o) (n : isExt o = false) : H' a = some o := by
  rcases x a o h with h1 | ⟨_, he, _⟩
  · exact h1
  · rw [n] at he; cases he
/-- M is a part of H that stays -/
def MOk (M H : Hp) : Prop := ∀ a o, M a = some o → H a = some o ∧ imm o = true
structure Grow (M H M' H' : Hp) : Prop where
  h : Same H H'
  m : Same M M'
  ok : MOk M' H'
  new : ∀ a o, M' a = some o → M a = none → H a = none
theorem Grow.refl {M H : Hp} (k : MOk M H) : Grow M H M H := ⟨Same.refl _, Same.refl _, k, fun a o h n => by rw [h] at n; cases n⟩
theorem Grow.trans {M H M1 H1 M2 H2 : Hp} (x : Grow M H M1 H1) (y : Grow M1 H1 M2 H2) : Grow M H M2 H2 where
  h := x.h.trans y.h
  m := x.m.trans y.m
  ok := y.ok
  new := fun a o h n => by
    cases e : M1 a with
    | none => exact x.h.free (y.new a o h e)
    | some o1 => exact x.new a o1 e n
/-- what an evaluation may do -/
structure Step (b : Bool) (M H M' H' : Hp) : Prop where
  k : Keep b H H'
  m : Same M M'
  new : ∀ a o, M' a = some o → M a = none → H a = none
theorem Step.refl {b : Bool} {M H : Hp} : Step b M H M H := ⟨.refl, Same.refl _, fun a o h n => by rw [h] at n; cases n⟩
theorem Step.of {b : Bool} {M H M' H' : Hp} (g : Grow M H M' H') : Step b M H M' H' := ⟨.of g.h, g.m, g.new⟩
theorem Step.trans {b : Bool} {M H M1 H1 M2 H2 : Hp} (x : Step b M H M1 H1) (y : Step b M1 H1 M2 H2) : Step b M H M2 H2 where
  k := x.k.trans y.k
  m := x.m.trans y.m
  new := fun a o h n => by
    cases e : M1 a with
    | none => exact x.k.free (y.new a o h e)
    | some o1 => exact x.new a o1 e n
theorem upd_same_of {M : Hp} {p : Addr} {o : HO} (h : M p = none) : Same M (upd M p o) := fun a u e => by
  rw [upd_ne (fun z => by subst z; rw [h] at e; cases e)]; exact e
theorem MOk.free {M H : Hp} (k : MOk M H) {p : Addr} (h : H p = none) : M p = none := by
  cases e : M p with
  | none => rfl
  | some o => rw [(k p o e).1] at h; cases h
theorem MOk.upd {M H : Hp} (k : MOk M H) {p : Addr} {o : HO} (h : H p = none) (i : imm o = true) : MOk (upd M p o) (upd H p o) := fun a u e => by
  by_cases z : a = p
  · subst z; rw [upd_same] at e ⊢; cases e; exact ⟨rfl, i⟩
  · rw [upd_ne z] at e ⊢; exact k a u e
/-- a new object that stays -/
theorem Grow.alloc {M H : Hp} (k : MOk M H) {p : Addr} {o : HO} (h : H p = none) (i : imm o = true) : Grow M H (upd M p o) (upd H p o) where
  h := upd_same_of h
  m := upd_same_of (k.free h)
  ok := k.upd h i
  new := fun a u e n => by
    by_cases z : a = p
    · subst z; exact h
    · rw [upd_ne z] at e; rw [e] at n; cases n
theorem MOk.same {M H : Hp} (k : MOk M H) : Same M H := fun a o h => (k a o h).1

/-! ### objects (the class Search), by what is said of them -/
/-- the entry -/
structure Ent where
  M : Hp
  H : Hp
  b : Bool
structure ObjB where
  Dat : Type
  rep : PySem.W.Frag → Ent → Hp → Hp → V → Dat → Prop
  mono : ∀ K I M H M' H' v z, rep K I M H v z → Same M M' → (∀ a o, M' a = some o → M a = none → I.H a = none ∨ H a = none) → (∀ a o, H a = some o → isExt o = false → (imm o = false ∨ I.H a ≠ none) → H' a = some o) → rep K I M' H' v z
abbrev noObj : ObjB := ⟨Empty, fun _ _ _ _ _ _ => False, fun _ _ _ _ _ _ _ _ h _ _ _ => h⟩

/-! ### environments -/
inductive Slot (B : ObjB) where
  | no
  | val (d : D)
  | own (ds : List D)
  | obj (z : B.Dat)
abbrev Env (B : ObjB) := List (Slot B)
/-- what is fixed through a derivation -/
structure Ctx (B : ObjB) where
  K : PySem.W.Frag
  cA : Nat → Addr
  E : XK
section
variable {B : ObjB}
def SlotR (K : PySem.W.Frag) (I : Ent) (M H : Hp) (w : Option (Option V)) : Slot B → Prop
  | .no => True
  | .val d => ∃ v, w = some (some v) ∧ Rep K M v d
  | .own ds => ∃ l vs, w = some (some (.ref l)) ∧ H l = some (.lst vs) ∧ M l = none ∧ I.H l = none ∧ Reps K M vs ds
  | .obj z => ∃ v, w = some (some v) ∧ B.rep K I M H v z
structure EnvR (K : PySem.W.Frag) (I : Ent) (M H : Hp) (σ : L2.St) (ρ : Env B) : Prop where
  len : σ.length = ρ.length
  ent : Keep I.b I.H H
  msub : Same I.M M
  mok : MOk M H
  mnew : ∀ a o, M a = some o → I.M a = none → I.H a = none
  slots : ∀ (i : Nat) (s : Slot B), ρ[i]? = some s → SlotR K I M H σ[i]? s
  apart : ∀ (i j : Nat) (ds es : List D), i ≠ j → ρ[i]? = some (.own ds) → ρ[j]? = some (.own es) → σ[i]? ≠ σ[j]?
variable {c : Ctx B} {I : Ent} {M H M' H' : Hp} {σ : L2.St} {ρ : Env B}
theorem SlotR.grow {K : PySem.W.Frag} {w : Option (Option V)} {s : Slot B} (g : Grow M H M' H') (h : SlotR K I M H w s) : SlotR K I M' H' w s := by
  cases s with
  | no => trivial
  | val d => obtain ⟨v, e, r⟩ := h; exact ⟨v, e, r.same g.m⟩
  | own ds =>
    obtain ⟨l, vs, e, hl, ml, il, r⟩ := h
    refine ⟨l, vs, e, g.h _ _ hl, ?_, il, r.same g.m⟩
    cases q : M' l with
    | none => rfl
    | some o => rw [g.new l o q ml] at hl; cases hl
  | obj z => obtain ⟨v, e, r⟩ := h; exact ⟨v, e, B.mono _ _ _ _ _ _ _ _ r g.m (fun a o q n => .inr (g.new a o q n)) fun a o q _ _ => g.h a o q⟩
theorem EnvR.grow {K : PySem.W.Frag} (e : EnvR K I M H σ ρ) (g : Grow M H M' H') : EnvR K I M' H' σ ρ where
  len := e.len
  ent := e.ent.trans (.of g.h)
  msub := e.msub.trans g.m
  mok := g.ok
  mnew := fun a o h n => by
    cases q : M a with
    | none => exact e.ent.free (g.new a o h q)
    | some o' => exact e.mnew a o' q n
  slots := fun i s h => (e.slots i s h).grow g
  apart := e.apart

/-! ### readings over data -/
def RD (c : Ctx B) (I : Ent) {α : Type} (r : R α) (P : α → Prop) : Prop := match r with
  | .ok a => P a
  | .exc n => ∀ H', Keep I.b I.H H' → c.E (.ref (c.cA n)) none H'
  | .stuck => False
theorem RD.bind {α β : Type} {r : R α} {k : α → R β} {P : β → Prop} (h : RD c I (r.bind k) P) : RD c I r (fun a => RD c I (k a) P) := by
  cases r with
  | ok a => exact h
  | exc n => exact h
  | stuck => exact h
theorem RD.mono {α : Type} {r : R α} {P Q : α → Prop} (h : RD c I r P) (k : ∀ a, P a → Q a) : RD c I r Q := by
  cases r with
  | ok a => exact k a h
  | exc n => exact h
  | stuck => exact h
theorem RD.case {α : Type} {r : R α} {P Q : α → Prop} (h : RD c I r P) (k : ∀ a, r = .ok a → P a → Q a) : RD c I r Q := by
  cases r with
  | ok a => exact k a rfl h
  | exc n => exact h
  | stuck => exact h
/-- what is wanted of a value, of several, of a truth value, of nothing -/
def Post (c : Ctx B) (I : Ent) (M H : Hp) (σ : L2.St) (ρ : Env B) (Q : VK) (d : D) : Prop := ∀ v H' M', Step I.b M H M' H' → EnvR c.K I M' H' σ ρ → Rep c.K M' v d → Q v H'
def PostA (c : Ctx B) (I : Ent) (M H : Hp) (σ : L2.St) (ρ : Env B) (Q : List V → Hp → Prop) (ds : List D) : Prop := ∀ vs H' M', Step I.b M H M' H' → EnvR c.K I M' H' σ ρ → Reps c.K M' vs ds → Q vs H'
def PostT (c : Ctx B) (I : Ent) (M H : Hp) (σ : L2.St) (ρ : Env B) (Q : Bool → Hp → Prop) (d : Bool) : Prop := ∀ H' M', Step I.b M H M' H' → EnvR c.K I M' H' σ ρ → Q d H'
def tD (c : Ctx B) (f : Env B → R D) : TE := fun σ H Q => ∃ I M ρ, EnvR c.K I M H σ ρ ∧ RD c I (f ρ) (Post c I M H σ ρ Q)
def tDA (c : Ctx B) (f : Env B → R (List D)) : TA := fun σ H Q => ∃ I M ρ, EnvR c.K I M H σ ρ ∧ RD c I (f ρ) (PostA c I M H σ ρ Q)
def tDT (c : Ctx B) (f : Env B → R Bool) : TT := fun σ H Q => ∃ I M ρ, EnvR c.K I M H σ ρ ∧ RD c I (f ρ) (PostT c I M H σ ρ Q)
end

theorem passN {X : Cx} : Passes (L2N.CX X.prog X.w) X E0 := fun _ _ _ _ _ _ _ ⟨_, _, _, _, _, _, _, _, _, _, _, _, z⟩ => z.elim
/-- what a body's context gives -/
structure Good {B : ObjB} (X : Cx) (c : Ctx B) (k : Nat) : Prop where
  K : c.K = X.K
  nd : X.N.Nodup
  calm : X.calm = true
  room : Room k X.A
  pass : Passes (L2N.CX X.prog X.w) X c.E
/-- .. and a statement's -/
structure GoodS {B : ObjB} (X : Cx) (c : Ctx B) (k : Nat) : Prop extends Good X c k where
  own : PassesOwn (model X.prog X.w) X.A X.env X.xe
  takes : L2N.Takes X (fun cls d _ H => c.E cls d H)

section
variable {B : ObjB}
structure DE (X : Cx) (c : Ctx B) (e : Expr) (f : Env B → R D) : Prop where
  pe : PE X e (tD c f)
structure DA (X : Cx) (c : Ctx B) (es : List Expr) (f : Env B → R (List D)) : Prop where
  pa : PA X es (tDA c f)
structure DT (X : Cx) (c : Ctx B) (e : Expr) (f : Env B → R Bool) : Prop where
  pt : PT X e (tDT c f)
structure DW (X : Cx) (c : Ctx B) (e : Expr) (f : Env B → R Bool) : Prop where
  pw : PW X e (tDT c f)

/-! ### monotone readings -/
theorem PE.imp {X : Cx} {e : Expr} {t u : TE} (h : PE X e t) (k : ∀ σ H Q, u σ H Q → t σ H Q) : PE X e u := ⟨fun pins s σ H Q I q => h.run pins s σ H Q I (k σ H Q q)⟩
theorem PT.imp {X : Cx} {e : Expr} {t u : TT} (h : PT X e t) (k : ∀ σ H Q, u σ H Q → t σ H Q) : PT X e u := ⟨fun pins s σ H Q I q => h.run pins s σ H Q I (k σ H Q q)⟩
theorem PW.imp {X : Cx} {e : Expr} {t u : TT} (h : PW X e t) (k : ∀ σ H Q, u σ H Q → t σ H Q) : PW X e u := ⟨fun wh pins s σ H Q I q => h.run wh pins s σ H Q I (k σ H Q q)⟩
theorem PA.imp {X : Cx} {e : List Expr} {t u : TA} (h : PA X e t) (k : ∀ σ H Q, u σ H Q → t σ H Q) : PA X e u := ⟨fun pos pins s σ H Q I q => h.run pos pins s σ H Q I (k σ H Q q)⟩
theorem PS.imp {X : Cx} {e : Stmt} {t u : TS} (h : PS X e t) (k : ∀ D σ H, u D σ H → t D σ H) : PS X e u := ⟨fun pins s σ H D I q => h.run pins s σ H D I (k D σ H q)⟩
theorem PSs.imp {X : Cx} {e : List Stmt} {t u : TS} (h : PSs X e t) (k : ∀ D σ H, u D σ H → t D σ H) : PSs X e u := ⟨fun pins s σ H D I q => h.run pins s σ H D I (k D σ H q)⟩

/-! ### names, constants -/
def eVar (i : Nat) : Env B → R D := fun ρ => match ρ[i]? with
  | some (.val d) => .ok d
  | _ => .stuck
def eC (d : D) : Env B → R D := fun _ => .ok d
variable {X : Cx} {c : Ctx B} {k : Nat} {pos : Pos}
theorem de_var {i : Nat} {x : Str} (hN : X.N[i]? = some x) (hv : Vis X.env.scope x) (hd : (x == ("__debug__" : Str)) = false := by decide) (hcd : (x == ("__classdict__" : Str)) = false := by decide) : DE X c (.Name x pos) (eVar i) := by
  refine ⟨PE.imp (pe_var hN hv hd hcd) fun σ H Q ⟨I, M, ρ, e, h⟩ => ?_⟩
  unfold eVar at h
  split at h
  · rename_i d q
    obtain ⟨v, e1, r⟩ := e.slots i _ q
    exact ⟨v, e1, h v H M .refl e r⟩
  · exact h.elim
theorem de_const {e : Expr} {v : V} {d : D} (h : PE X e (tC v)) (r : ∀ M, Rep c.K M v d) : DE X c e (eC d) :=
  ⟨PE.imp h fun σ H Q ⟨I, M, ρ, e, q⟩ => q v H M .refl e (r M)⟩
theorem de_int {i j} : DE X c (.Constant (.int i) j pos) (eC (.int i)) := de_const pe_int fun _ => .int i
theorem de_bl {b j} : DE X c (.Constant (.bool b) j pos) (eC (.bool b)) := de_const pe_bl fun _ => .bl b
theorem de_non {j} : DE X c (.Constant .none j pos) (eC .none) := de_const pe_non fun _ => .non
theorem de_str {x j} : DE X c (.Constant (.str x) j pos) (eC (.str x)) := de_const pe_str fun _ => .str x
theorem de_glob {x : Str} {v : V} {u : Value} {d : D} (hg : Gl X x) (hm : X.mg x = some u) (r : RelV v u) (rd : ∀ M, Rep c.K M v d) (hd : (x == ("__debug__" : Str)) = false := by decide) : DE X c (.Name x pos) (eC d) :=
  de_const (pe_glob hg hm r hd) rd

/-! ### operations by their values -/
def Ok1 (K : PySem.W.Frag) (r : V → Hp → VK → Prop) (F : D → R D) : Prop := ∀ M H v dv d (Q : VK), MOk M H → Rep K M v dv → F dv = .ok d → (∀ v' H' M', Grow M H M' H' → Rep K M' v' d → Q v' H') → r v H Q
def Ok2 (K : PySem.W.Frag) (r : R2) (F : D → D → R D) : Prop := ∀ M H v w dv dw d (Q : VK), MOk M H → Rep K M v dv → Rep K M w dw → F dv dw = .ok d → (∀ v' H' M', Grow M H M' H' → Rep K M' v' d → Q v' H') → r v w H Q
def OkA (K : PySem.W.Frag) (r : List V → Hp → VK → Prop) (F : List D → R D) : Prop := ∀ M H vs ds d (Q : VK), MOk M H → Reps K M vs ds → F ds = .ok d → (∀ v' H' M', Grow M H M' H' → Rep K M' v' d → Q v' H') → r vs H Q
/-- F gives no error of its own -/
def noE {α : Type} (r : R α) : R α := match r with
  | .exc _ => .stuck
  | r => r
theorem noE_ok {α : Type} {r : R α} {a : α} (h : noE r = .ok a) : r = .ok a := by
  cases r with
  | ok b => exact h
  | exc n => cases h
  | stuck => cases h
theorem RD.noE {α : Type} {I : Ent} {r : R α} {P : α → Prop} (h : RD c I (PL.noE r) P) : ∃ a, r = .ok a ∧ P a := by
  cases r with
  | ok a => exact ⟨a, rfl, h⟩
  | exc n => exact h.elim
  | stuck => exact h.elim
def e1 (F : D → R D) (f : Env B → R D) : Env B → R D := fun ρ => (f ρ).bind fun x => noE (F x)
def e2 (F : D → D → R D) (f g : Env B → R D) : Env B → R D := fun ρ => (f ρ).bind fun x => (g ρ).bind fun y => noE (F x y)
def eA (F : List D → R D) (f : Env B → R (List D)) : Env B → R D := fun ρ => (f ρ).bind fun x => noE (F x)
/-- the end of an operation -/
theorem post_grow {I : Ent} {M0 H0 M H : Hp} {σ : L2.St} {ρ : Env B} {Q : VK} {d : D} (h : Post c I M0 H0 σ ρ Q d) (k : Step I.b M0 H0 M H) (e : EnvR c.K I M H σ ρ) :
    ∀ v' H' M', Grow M H M' H' → Rep c.K M' v' d → Q v' H' := fun v' H' M' g r => h v' H' M' (k.trans (.of g)) (e.grow g) r
theorem de_1 {e a : Expr} {ta : TE} {r : V → Hp → VK → Prop} {F : D → R D} {f : Env B → R D} (h : ∀ {t : TE}, PE X a t → PE X e (tUn r t)) (hF : Ok1 c.K r F) (ha : DE X c a f) : DE X c e (e1 F f) := by
  refine ⟨PE.imp (h ha.pe) fun σ H Q ⟨I, M, ρ, e, q⟩ => ?_⟩
  refine ⟨I, M, ρ, e, q.bind.mono fun x hx v H1 M1 k1 e1 r1 => ?_⟩
  obtain ⟨d, hd, hp⟩ := hx.noE
  exact hF M1 H1 v x d Q e1.mok r1 hd (post_grow hp k1 e1)
theorem de_2 {e a b : Expr} {r : R2} {F : D → D → R D} {f g : Env B → R D} (h : ∀ {t u : TE}, PE X a t → PE X b u → PE X e (tOp r t u)) (hF : Ok2 c.K r F) (ha : DE X c a f) (hb : DE X c b g) : DE X c e (e2 F f g) := by
  refine ⟨PE.imp (h ha.pe hb.pe) fun σ H Q ⟨I, M, ρ, e, q⟩ => ?_⟩
  refine ⟨I, M, ρ, e, q.bind.mono fun x hx v H1 M1 k1 e1 r1 => ?_⟩
  refine ⟨I, M1, ρ, e1, hx.bind.mono fun y hy u H2 M2 k2 e2 r2 => ?_⟩
  obtain ⟨d, hd, hp⟩ := hy.noE
  exact hF M2 H2 v u x y d Q e2.mok (r1.same k2.m) r2 hd (post_grow hp (k1.trans k2) e2)
theorem de_A {e : Expr} {es : List Expr} {r : List V → Hp → VK → Prop} {F : List D → R D} {f : Env B → R (List D)} (h : ∀ {t : TA}, PA X es t → PE X e (tCB r t)) (hF : OkA c.K r F) (ha : DA X c es f) : DE X c e (eA F f) := by
  refine ⟨PE.imp (h ha.pa) fun σ H Q ⟨I, M, ρ, e, q⟩ => ?_⟩
  refine ⟨I, M, ρ, e, q.bind.mono fun x hx v H1 M1 k1 e1 r1 => ?_⟩
  obtain ⟨d, hd, hp⟩ := hx.noE
  exact hF M1 H1 v x d Q e1.mok r1 hd (post_grow hp k1 e1)

/-! ### argument lists -/
def aNil : Env B → R (List D) := fun _ => .ok []
def aCons (f : Env B → R D) (g : Env B → R (List D)) : Env B → R (List D) := fun ρ => (f ρ).bind fun x => (g ρ).bind fun xs => .ok (x :: xs)
theorem da_nil : DA X c [] (aNil : Env B → R (List D)) := ⟨PA.imp pa_nil fun σ H Q ⟨I, M, ρ, e, q⟩ => q [] H M .refl e .nil⟩
theorem da_cons {e : Expr} {es : List Expr} {f : Env B → R D} {g : Env B → R (List D)} (h : DE X c e f) (h' : DA X c es g) (hs : starEach (e :: es) X.env = (false, eval e X.env) :: starEach es X.env := by rfl) : DA X c (e :: es) (aCons f g) := by
  refine ⟨PA.imp (pa_cons h.pe h'.pa hs) fun σ H Q ⟨I, M, ρ, e, q⟩ => ?_⟩
  refine ⟨I, M, ρ, e, q.bind.mono fun x hx v H1 M1 k1 e1 r1 => ?_⟩
  refine ⟨I, M1, ρ, e1, hx.bind.mono fun xs hxs vs H2 M2 k2 e2 r2 => ?_⟩
  exact hxs (v :: vs) H2 M2 (k1.trans k2) e2 (.cons (r1.same k2.m) r2)

/-! ### displays -/
def eTup (f : Env B → R (List D)) : Env B → R D := fun ρ => (f ρ).bind fun xs => if xs.length ≤ 1000 then .ok (.tuple xs) else .stuck
def eLst (f : Env B → R (List D)) : Env B → R D := fun ρ => (f ρ).bind fun xs => if xs.length ≤ 1000 then .ok (.list xs) else .stuck
theorem le_line {n : Nat} (h : n ≤ 1000) : n ≤ sizeLine := Nat.le_trans h (by decide)
theorem Rep.newT {K : PySem.W.Frag} {M : Hp} {p : Addr} {vs : List V} {ds : List D} (h : M p = none) (r : Reps K M vs ds) : Rep K (upd M p (.tup vs)) (.ref p) (.tuple ds) :=
  .tup (SqT.of upd_same) (r.same (upd_same_of h))
theorem Rep.newL {K : PySem.W.Frag} {M : Hp} {p : Addr} {vs : List V} {ds : List D} (h : M p = none) (r : Reps K M vs ds) : Rep K (upd M p (.lst vs)) (.ref p) (.list ds) :=
  .lst upd_same (r.same (upd_same_of h))
theorem de_tup {es : List Expr} {x1} {f : Env B → R (List D)} (h : DA X c es f) : DE X c (.Tuple es x1 pos) (eTup f) := by
  refine ⟨PE.imp (pe_tup h.pa) fun σ H Q ⟨I, M, ρ, e, q⟩ => ?_⟩
  refine ⟨I, M, ρ, e, q.bind.mono fun x hx vs H1 M1 k1 e1 r1 => ?_⟩
  split at hx
  · rename_i hl
    refine ⟨by rw [r1.length]; exact le_line hl, fun p hp => ?_⟩
    have g := Grow.alloc e1.mok (o := .tup vs) hp rfl
    exact hx _ _ _ (k1.trans (.of g)) (e1.grow g) (Rep.newT (e1.mok.free hp) r1)
  · exact hx.elim
theorem de_lst {es : List Expr} {f : Env B → R (List D)} (h : DA X c es f) : DE X c (.List es pos) (eLst f) := by
  refine ⟨PE.imp (pe_lst h.pa) fun σ H Q ⟨I, M, ρ, e, q⟩ => ?_⟩
  refine ⟨I, M, ρ, e, q.bind.mono fun x hx vs H1 M1 k1 e1 r1 => ?_⟩
  split at hx
  · rename_i hl
    refine ⟨by rw [r1.length]; exact le_line hl, fun p hp => ?_⟩
    have g := Grow.alloc e1.mok (o := .lst vs) hp rfl
    exact hx _ _ _ (k1.trans (.of g)) (e1.grow g) (Rep.newL (e1.mok.free hp) r1)
  · exact hx.elim
end
end PL

set_option Elab.async false
set_option linter.all false
set_option maxRecDepth 100000
set_option maxHeartbeats 4000000
/-! operators, comparisons, items, slices, built-in calls over data -/
namespace PL
open PySem PySem.Spec PyProof.Rows L2
section
variable {B : ObjB} {X : Cx} {c : Ctx B} {k : Nat} {pos : Pos} {a b : Expr} {f g : Env B → R D}

/-! ### arithmetic -/
def dAdd : D → D → R D
  | .int i, .int j => .ok (.int (i + j))
  | .str x, .str y => if x.length + y.length ≤ 100000 then .ok (.str (x ++ y)) else .stuck
  | .list xs, .list ys => if xs.length + ys.length ≤ 100000 then .ok (.list (xs ++ ys)) else .stuck
  | .tuple xs, .tuple ys => if xs.length + ys.length ≤ 100000 then .ok (.tuple (xs ++ ys)) else .stuck
  | _, _ => .stuck
theorem le_line5 {n : Nat} (h : n ≤ 100000) : n ≤ sizeLine := Nat.le_trans h (by decide)
abbrev rAddS : R2 := fun x y H Q => ∃ i j, x = .str i ∧ y = .str j ∧ i.length + j.length ≤ sizeLine ∧ Q (.str (i ++ j)) H
abbrev rAddD (K : PySem.W.Frag) : R2 := fun x y H Q => (rI0 (fun i j => .int (i + j))) x y H Q ∨ rAddS x y H Q ∨ rCat x y H Q ∨ rCatA K x y H Q
theorem op_addD : OpR X (binaryOp .Add) (rAddD X.K) := op_add.or (op_add_str.or (op_cat.or op_catA))
theorem ok_add {K : PySem.W.Frag} : Ok2 K (rAddD K) dAdd := by
  intro M H v w dv dw d Q k rv rw' h q
  unfold dAdd at h
  split at h
  · cases rv; cases rw'
    cases h
    exact .inl ⟨_, _, rfl, rfl, q _ _ _ (.refl k) (.int _)⟩
  · cases rv; cases rw'
    split at h
    · rename_i hl
      cases h
      exact .inr (.inl ⟨_, _, rfl, rfl, le_line5 hl, q _ _ _ (.refl k) (.str _)⟩)
    · cases h
  · cases rv with
    | lst ha ra =>
      cases rw' with
      | lst hb rb =>
        split at h
        · rename_i hl
          cases h
          refine .inr (.inr (.inl ⟨_, _, _, _, rfl, rfl, k.same _ _ ha, k.same _ _ hb, ?_, fun p hp => ?_⟩))
          · rw [ra.length, rb.length]; exact le_line5 hl
          · exact q _ _ _ (.alloc k hp rfl) (.newL (k.free hp) (ra.append rb))
        · cases h
  · cases rv with
    | tup ha ra =>
      cases rw' with
      | tup hb rb =>
        split at h
        · rename_i hl
          cases h
          have la := ra.length
          have lb := rb.length
          refine .inr (.inr (.inr ⟨_, _, _, _, rfl, rfl, sqT_same k.same ha, sqT_same k.same hb, ?_, fun e => ?_, fun _ e => ?_, fun _ _ p hp => ?_⟩))
          · rw [la, lb]; exact le_line5 hl
          · subst e
            cases ra
            exact q _ _ _ (.refl k) (.tup hb rb)
          · subst e
            cases rb
            rw [List.append_nil] at q
            exact q _ _ _ (.refl k) (.tup ha ra)
          · exact q _ _ _ (.alloc k hp rfl) (.newT (k.free hp) (ra.append rb))
        · cases h
  · cases h
theorem de_add (K : c.K = X.K) (ha : DE X c a f) (hb : DE X c b g) : DE X c (.BinOp a .Add b pos) (e2 dAdd f g) := de_2 (fun p q => pe_op op_addD p q) (K ▸ ok_add) ha hb
def dSub : D → D → R D
  | .int i, .int j => .ok (.int (i - j))
  | _, _ => .stuck
theorem ok_sub {K : PySem.W.Frag} : Ok2 K (rI0 fun i j => .int (i - j)) dSub := by
  intro M H v w dv dw d Q k rv rw' h q
  unfold dSub at h
  split at h
  · cases rv; cases rw'; cases h
    exact ⟨_, _, rfl, rfl, q _ _ _ (.refl k) (.int _)⟩
  · cases h
theorem de_sub (ha : DE X c a f) (hb : DE X c b g) : DE X c (.BinOp a .Sub b pos) (e2 dSub f g) := de_2 (fun p q => pe_op op_sub p q) ok_sub ha hb
def small64 (i : Int) : Bool := decide (-(2 ^ 64) < i) && decide (i < 2 ^ 64)
def dMul : D → D → R D
  | .int i, .int j => if (small64 i || small64 j) = true then .ok (.int (i * j)) else .stuck
  | .list xs, .int k => if 0 ≤ k ∧ k ≤ 1000 ∧ xs.length ≤ 100 then .ok (.list (List.replicate k.toNat xs).flatten) else .stuck
  | .tuple xs, .int k => if 2 ≤ k ∧ k ≤ 1000 ∧ xs.length ≤ 100 ∧ xs.isEmpty = false then .ok (.tuple (List.replicate k.toNat xs).flatten) else .stuck
  | _, _ => .stuck
theorem Reps.rep {K : PySem.W.Frag} {M : Hp} {vs : List V} {ds : List D} (h : Reps K M vs ds) : ∀ n : Nat, Reps K M (List.replicate n vs).flatten (List.replicate n ds).flatten
  | 0 => .nil
  | n + 1 => by rw [List.replicate_succ, List.replicate_succ, List.flatten_cons, List.flatten_cons]; exact h.append (Reps.rep h n)
abbrev rMulI : R2 := rI CMul fun i j => .int (i * j)
abbrev rMulD (K : PySem.W.Frag) : R2 := fun x y H Q => rMulI x y H Q ∨ rRep x y H Q ∨ rRepT K x y H Q
theorem op_mulD : OpR X (binaryOp .Mult) (rMulD X.K) := op_mul.or (op_rep.or op_repT)
theorem ok_mul {K : PySem.W.Frag} : Ok2 K (rMulD K) dMul := by
  intro M H v w dv dw d Q k rv rw' h q
  unfold dMul at h
  split at h
  · cases rv; cases rw'
    split at h
    · rename_i hs
      cases h
      refine .inl ⟨_, _, rfl, rfl, ?_, q _ _ _ (.refl k) (.int _)⟩
      simp only [small64, Bool.or_eq_true, Bool.and_eq_true, decide_eq_true_eq] at hs
      exact hs
    · cases h
  · cases rw'
    cases rv with
    | lst ha ra =>
      split at h
      · rename_i hs
        obtain ⟨h1, h2, h3⟩ := hs
        cases h
        refine .inr (.inl ⟨_, _, _, rfl, rfl, k.same _ _ ha, by omega, by omega, ?_, fun p hp => ?_⟩)
        · rw [ra.length]
          exact Nat.le_trans (Nat.mul_le_mul h3 (Int.toNat_le.mpr (by omega : _ ≤ ((1000 : Nat) : Int)))) (by decide)
        · exact q _ _ _ (.alloc k hp rfl) (.newL (k.free hp) (ra.rep _))
      · cases h
  · cases rw'
    cases rv with
    | tup ha ra =>
      split at h
      · rename_i hs
        obtain ⟨h1, h2, h3, h4⟩ := hs
        cases h
        refine .inr (.inr ⟨_, _, _, rfl, rfl, sqT_same k.same ha, ?_, h1, h2, ?_, fun p hp => ?_⟩)
        · intro e; subst e; cases ra; simp at h4
        · rw [ra.length]; omega
        · exact q _ _ _ (.alloc k hp rfl) (.newT (k.free hp) (ra.rep _))
      · cases h
  · cases h
theorem de_mul (K : c.K = X.K) (ha : DE X c a f) (hb : DE X c b g) : DE X c (.BinOp a .Mult b pos) (e2 dMul f g) := de_2 (fun p q => pe_op op_mulD p q) (K ▸ ok_mul) ha hb
def dDiv : D → D → R D
  | .int i, .int j => if 0 < j ∧ j < 1073741824 then .ok (.int (i / j)) else .stuck
  | _, _ => .stuck
def dMod : D → D → R D
  | .int i, .int j => if 0 < j then .ok (.int (i % j)) else .stuck
  | _, _ => .stuck
def dPow : D → D → R D
  | .int i, .int j => if 0 ≤ j ∧ j ≤ 1000000 ∧ i.natAbs < 2 ^ 64 then .ok (.int (i ^ j.toNat)) else .stuck
  | _, _ => .stuck
theorem ok_div {K : PySem.W.Frag} : Ok2 K (rI CDiv fun i j => .int (i / j)) dDiv := by
  intro M H v w dv dw d Q k rv rw' h q
  unfold dDiv at h
  split at h
  · cases rv; cases rw'
    split at h
    · rename_i hs
      cases h
      exact ⟨_, _, rfl, rfl, hs, q _ _ _ (.refl k) (.int _)⟩
    · cases h
  · cases h
theorem ok_mod {K : PySem.W.Frag} : Ok2 K (rI (fun _ j => 0 < j) fun i j => .int (i % j)) dMod := by
  intro M H v w dv dw d Q k rv rw' h q
  unfold dMod at h
  split at h
  · cases rv; cases rw'
    split at h
    · rename_i hs
      cases h
      exact ⟨_, _, rfl, rfl, hs, q _ _ _ (.refl k) (.int _)⟩
    · cases h
  · cases h
theorem ok_pow {K : PySem.W.Frag} : Ok2 K (rI CPow fun i j => .int (i ^ j.toNat)) dPow := by
  intro M H v w dv dw d Q k rv rw' h q
  unfold dPow at h
  split at h
  · cases rv; cases rw'
    split at h
    · rename_i hs
      cases h
      exact ⟨_, _, rfl, rfl, hs, q _ _ _ (.refl k) (.int _)⟩
    · cases h
  · cases h
theorem de_div (ha : DE X c a f) (hb : DE X c b g) : DE X c (.BinOp a .FloorDiv b pos) (e2 dDiv f g) := de_2 (fun p q => pe_op op_fdiv p q) ok_div ha hb
theorem de_mod (ha : DE X c a f) (hb : DE X c b g) : DE X c (.BinOp a .Mod b pos) (e2 dMod f g) := de_2 (fun p q => pe_op op_mod p q) ok_mod ha hb
theorem de_pow (ha : DE X c a f) (hb : DE X c b g) : DE X c (.BinOp a .Pow b pos) (e2 dPow f g) := de_2 (fun p q => pe_op op_pow p q) ok_pow ha hb
def dNeg : D → R D
  | .int i => .ok (.int (-i))
  | _ => .stuck
theorem ok_neg {K : PySem.W.Frag} : Ok1 K (rU fun i => .int (-i)) dNeg := by
  intro M H v dv d Q k rv h q
  unfold dNeg at h
  split at h
  · cases rv; cases h
    exact ⟨_, rfl, q _ _ _ (.refl k) (.int _)⟩
  · cases h
theorem de_neg (ha : DE X c a f) : DE X c (.UnaryOp .USub a pos) (e1 dNeg f) := de_1 (ta := tVar 0) (fun p => pe_un un_neg p) ok_neg ha

/-! ### comparisons -/
def dCmp (p : Int → Int → Bool) : D → D → R D
  | .int i, .int j => .ok (.bool (p i j))
  | _, _ => .stuck
theorem ok_cmp {K : PySem.W.Frag} (p : Int → Int → Bool) : Ok2 K (rI0 fun i j => .bl (p i j)) (dCmp p) := by
  intro M H v w dv dw d Q k rv rw' h q
  unfold dCmp at h
  split at h
  · cases rv; cases rw'; cases h
    exact ⟨_, _, rfl, rfl, q _ _ _ (.refl k) (.bl _)⟩
  · cases h
abbrev dLt := dCmp fun i j => decide (i < j)
abbrev dLe := dCmp fun i j => decide (i ≤ j)
abbrev dGt := dCmp fun i j => decide (j < i)
abbrev dGe := dCmp fun i j => decide (j ≤ i)
def dEq (x y : D) : R D := if (SeqAt.shaped x && SeqAt.shaped y) = true then .ok (.bool (PyData.eqv x y)) else .stuck
def dNe (x y : D) : R D := if (SeqAt.shaped x && SeqAt.shaped y) = true then .ok (.bool (!PyData.eqv x y)) else .stuck
theorem shaped_dp {K : PySem.W.Frag} {M H : Hp} (k : MOk M H) {v : V} {d : D} (s : SeqAt.shaped d = true) (r : Rep K M v d) : Dp K H v d := Dp.up k.same (r.dp (SeqAt.canLay_of_shaped s))
theorem ok_eq {K : PySem.W.Frag} : Ok2 K (rEqD K) dEq := by
  intro M H v w dv dw d Q k rv rw' h q
  unfold dEq at h
  split at h
  · rename_i hs
    obtain ⟨s1, s2⟩ := Bool.and_eq_true_iff.mp hs
    cases h
    exact ⟨_, _, shaped_dp k s1 rv, shaped_dp k s2 rw', s1, s2, q _ _ _ (.refl k) (.bl _)⟩
  · cases h
theorem ok_ne {K : PySem.W.Frag} : Ok2 K (rNeD K) dNe := by
  intro M H v w dv dw d Q k rv rw' h q
  unfold dNe at h
  split at h
  · rename_i hs
    obtain ⟨s1, s2⟩ := Bool.and_eq_true_iff.mp hs
    cases h
    exact ⟨_, _, shaped_dp k s1 rv, shaped_dp k s2 rw', s1, s2, q _ _ _ (.refl k) (.bl _)⟩
  · cases h
/-- in, over a list or a tuple -/
def dIn : D → D → R D
  | x, .list ys => if (SeqAt.shaped x && SeqAt.shaped (.list ys)) = true then .ok (.bool (ys.any fun z => PyData.eqv z x)) else .stuck
  | x, .tuple ys => if (SeqAt.shaped x && SeqAt.shaped (.tuple ys)) = true then .ok (.bool (ys.any fun z => PyData.eqv z x)) else .stuck
  | _, _ => .stuck
def dNotIn : D → D → R D
  | x, .list ys => if (SeqAt.shaped x && SeqAt.shaped (.list ys)) = true then .ok (.bool (!ys.any fun z => PyData.eqv z x)) else .stuck
  | x, .tuple ys => if (SeqAt.shaped x && SeqAt.shaped (.tuple ys)) = true then .ok (.bool (!ys.any fun z => PyData.eqv z x)) else .stuck
  | _, _ => .stuck
def rInT (K : PySem.W.Frag) : R2 := fun x y H Q => ∃ d ds, Dp K H x d ∧ Dp K H y (.tuple ds) ∧ SeqAt.shaped d = true ∧ SeqAt.shaped (.tuple ds) = true ∧ Q (.bl (ds.any fun z => PyData.eqv z d)) H
def rNotInT (K : PySem.W.Frag) : R2 := fun x y H Q => ∃ d ds, Dp K H x d ∧ Dp K H y (.tuple ds) ∧ SeqAt.shaped d = true ∧ SeqAt.shaped (.tuple ds) = true ∧ Q (.bl (!ds.any fun z => PyData.eqv z d)) H
theorem op_inT (hu : X.A.units + 65 < cLine) : OpR X (compareOp .In) (rInT X.K) := by
  intro pins s σ H x y v u Q I rx ry h
  obtain ⟨d, ds, hd, he, sd, se, q⟩ := h
  obtain ⟨as, r1⟩ := Dp.reads I d x v hd rx
  obtain ⟨bs, r2⟩ := Dp.reads I (.tuple ds) y u he ry
  exact SeqAt.in_tuple_reads r2 r1 (SeqAt.canLay_of_shaped se) (SeqAt.canLay_of_shaped sd) (room_in_shaped sd hu) ⟨.bl _, H, I, rfl, q⟩
theorem op_notInT (hu : X.A.units + 65 < cLine) : OpR X (compareOp .NotIn) (rNotInT X.K) := by
  intro pins s σ H x y v u Q I rx ry h
  obtain ⟨d, ds, hd, he, sd, se, q⟩ := h
  obtain ⟨as, r1⟩ := Dp.reads I d x v hd rx
  obtain ⟨bs, r2⟩ := Dp.reads I (.tuple ds) y u he ry
  exact SeqAt.notIn_tuple_reads r2 r1 (SeqAt.canLay_of_shaped se) (SeqAt.canLay_of_shaped sd) (room_in_shaped sd hu) ⟨.bl _, H, I, rfl, q⟩
abbrev rInA (K : PySem.W.Frag) : R2 := fun x y H Q => rInD K x y H Q ∨ rInT K x y H Q
abbrev rNotInA (K : PySem.W.Frag) : R2 := fun x y H Q => rNotInD K x y H Q ∨ rNotInT K x y H Q
theorem ok_in {K : PySem.W.Frag} : Ok2 K (rInA K) dIn := by
  intro M H v w dv dw d Q k rv rw' h q
  unfold dIn at h
  split at h
  · split at h
    · rename_i hs
      obtain ⟨s1, s2⟩ := Bool.and_eq_true_iff.mp hs
      cases h
      exact .inl ⟨_, _, shaped_dp k s1 rv, shaped_dp k s2 rw', s1, s2, q _ _ _ (.refl k) (.bl _)⟩
    · cases h
  · split at h
    · rename_i hs
      obtain ⟨s1, s2⟩ := Bool.and_eq_true_iff.mp hs
      cases h
      exact .inr ⟨_, _, shaped_dp k s1 rv, shaped_dp k s2 rw', s1, s2, q _ _ _ (.refl k) (.bl _)⟩
    · cases h
  · cases h
theorem ok_notIn {K : PySem.W.Frag} : Ok2 K (rNotInA K) dNotIn := by
  intro M H v w dv dw d Q k rv rw' h q
  unfold dNotIn at h
  split at h
  · split at h
    · rename_i hs
      obtain ⟨s1, s2⟩ := Bool.and_eq_true_iff.mp hs
      cases h
      exact .inl ⟨_, _, shaped_dp k s1 rv, shaped_dp k s2 rw', s1, s2, q _ _ _ (.refl k) (.bl _)⟩
    · cases h
  · split at h
    · rename_i hs
      obtain ⟨s1, s2⟩ := Bool.and_eq_true_iff.mp hs
      cases h
      exact .inr ⟨_, _, shaped_dp k s1 rv, shaped_dp k s2 rw', s1, s2, q _ _ _ (.refl k) (.bl _)⟩
    · cases h
  · cases h
/-- is, is not: None, truth values -/
def dIs : D → D → R D
  | x, .none => .ok (.bool (match x with | .none => true | _ => false))
  | .bool x, .bool y => .ok (.bool (decide (x = y)))
  | _, _ => .stuck
def dIsNot : D → D → R D
  | x, .none => .ok (.bool (match x with | .none => false | _ => true))
  | .bool x, .bool y => .ok (.bool (!decide (x = y)))
  | _, _ => .stuck
abbrev rIsNon : R2 := fun x y H Q => y = .non ∧ Q (.bl (decide (x = .non))) H
abbrev rNotNon : R2 := fun x y H Q => y = .non ∧ Q (.bl (!decide (x = .non))) H
abbrev rIsD : R2 := fun x y H Q => rIsNon x y H Q ∨ rIsB x y H Q
abbrev rIsNotD : R2 := fun x y H Q => rNotNon x y H Q ∨ rNotB x y H Q
theorem ok_is {K : PySem.W.Frag} : Ok2 K rIsD dIs := by
  intro M H v w dv dw d Q k rv rw' h q
  unfold dIs at h
  split at h
  · cases h
    cases rw'
    refine .inl ⟨rfl, ?_⟩
    cases rv <;> exact q _ _ _ (.refl k) (.bl _)
  · cases h
    cases rv; cases rw'
    exact .inr ⟨_, _, rfl, rfl, q _ _ _ (.refl k) (.bl _)⟩
  · cases h
theorem ok_isNot {K : PySem.W.Frag} : Ok2 K rIsNotD dIsNot := by
  intro M H v w dv dw d Q k rv rw' h q
  unfold dIsNot at h
  split at h
  · cases h
    cases rw'
    refine .inl ⟨rfl, ?_⟩
    cases rv <;> exact q _ _ _ (.refl k) (.bl _)
  · cases h
    cases rv; cases rw'
    exact .inr ⟨_, _, rfl, rfl, q _ _ _ (.refl k) (.bl _)⟩
  · cases h
/-- a comparison's operator, its function -/
structure CmpD (X : Cx) (op : CmpOp) (F : D → D → R D) where
  r : R2
  op : OpR X (compareOp op) r
  ok : Ok2 X.K r F
end
section
variable {X : Cx} {k : Nat}
theorem units65 (h : Room k X.A) : X.A.units + 65 < cLine := by have := h.un; omega
theorem units64 (h : Room k X.A) : X.A.units + 64 < cLine := by have := h.un; omega
def cLt : CmpD X .Lt dLt := ⟨_, op_lt, ok_cmp _⟩
def cLe : CmpD X .LtE dLe := ⟨_, op_le, ok_cmp _⟩
def cGt : CmpD X .Gt dGt := ⟨_, op_gt, ok_cmp _⟩
def cGe : CmpD X .GtE dGe := ⟨_, op_ge, ok_cmp _⟩
def cEq (h : Room k X.A) : CmpD X .Eq dEq := ⟨_, op_eqD (units64 h), ok_eq⟩
def cNe (h : Room k X.A) : CmpD X .NotEq dNe := ⟨_, op_neD (units64 h), ok_ne⟩
def cIn (h : Room k X.A) : CmpD X .In dIn := ⟨_, (op_inD (units65 h)).or (op_inT (units65 h)), ok_in⟩
def cNotIn (h : Room k X.A) : CmpD X .NotIn dNotIn := ⟨_, (op_notInD (units65 h)).or (op_notInT (units65 h)), ok_notIn⟩
def cIs : CmpD X .Is dIs := ⟨_, op_isN.or op_isBl, ok_is⟩
def cIsNot : CmpD X .IsNot dIsNot := ⟨_, op_notN.or op_notBl, ok_isNot⟩
variable {B : ObjB} {c : Ctx B} {pos : Pos} {a b d : Expr} {f g h : Env B → R D} {op op' : CmpOp} {F F' : D → D → R D}
theorem de_cmp (C : CmpD X op F) (K : c.K = X.K) (ha : DE X c a f) (hb : DE X c b g) (hm : behindInMarks op b = false) : DE X c (.Compare a [op] [b] pos) (e2 F f g) :=
  de_2 (fun p q => pe_cmpR C.op p q hm) (K ▸ C.ok) ha hb
/-- a < b < d -/
def eChain (F F' : D → D → R D) (f g h : Env B → R D) : Env B → R D := fun ρ => (f ρ).bind fun x => (g ρ).bind fun y => (noE (F x y)).bind fun z => match z with
  | .bool true => (h ρ).bind fun w => noE (F' y w)
  | .bool false => .ok (.bool false)
  | _ => .stuck
/-- F gives truth values alone -/
def TruthV (r : R2) : Prop := ∀ x y H (Q : VK), r x y H Q → r x y H fun v H' => Q v H'
end
end PL

set_option Elab.async false
set_option linter.all false
set_option maxRecDepth 100000
set_option maxHeartbeats 4000000
/-! tests, chains, items, slices, built-in calls -/
namespace PL
open PySem PySem.Spec PyProof.Rows L2
section
variable {B : ObjB} {X : Cx} {c : Ctx B} {k : Nat} {pos : Pos} {a b d e : Expr} {f g h : Env B → R D} {op op' : CmpOp} {F F' : D → D → R D}

/-! ### truth values -/
def toB : D → R Bool
  | .bool b => .ok b
  | _ => .stuck
def tV (f : Env B → R D) : Env B → R Bool := fun ρ => (f ρ).bind toB
theorem tV_imp {σ : L2.St} {H : Hp} {Q : Bool → Hp → Prop} (h : tDT c (tV f) σ H Q) : tD c f σ H fun x H' => ∃ k, x = .bl k ∧ Q k H' := by
  obtain ⟨I, M, ρ, e, q⟩ := h
  refine ⟨I, M, ρ, e, q.bind.mono fun x hx v H1 M1 k1 e1 r1 => ?_⟩
  unfold toB at hx
  split at hx
  · cases r1
    exact ⟨_, rfl, hx H1 M1 k1 e1⟩
  · exact hx.elim
theorem dt_val (h : DE X c e f) (he : ∀ whole, isTrue e X.env whole = (do let v ← whole; standAt e.pos; holding [v] (truthy v)) := by intro _; rfl) : DT X c e (tV f) :=
  ⟨PT.imp (pt_val h.pe he) fun σ H Q q => tV_imp q⟩
theorem imp2 {r : R2} (hF : Ok2 c.K r F) {σ : L2.St} {H : Hp} {Q : VK} (q : tD c (e2 F f g) σ H Q) : tOp r (tD c f) (tD c g) σ H Q := by
  obtain ⟨I, M, ρ, e, q⟩ := q
  refine ⟨I, M, ρ, e, q.bind.mono fun x hx v H1 M1 k1 e1 r1 => ?_⟩
  refine ⟨I, M1, ρ, e1, hx.bind.mono fun y hy u H2 M2 k2 e2 r2 => ?_⟩
  obtain ⟨d, hd, hp⟩ := hy.noE
  exact hF M2 H2 v u x y d Q e2.mok (r1.same k2.m) r2 hd (post_grow hp (k1.trans k2) e2)
theorem dt_cmp (C : CmpD X op F) (K : c.K = X.K) (ha : DE X c a f) (hb : DE X c b g) (hm : behindInMarks op b = false) : DT X c (.Compare a [op] [b] pos) (tV (e2 F f g)) :=
  ⟨PT.imp (pt_cmpR C.op ha.pe hb.pe hm) fun σ H Q q => imp2 (K ▸ C.ok) (tV_imp q)⟩
theorem impChain {r r' : R2} (hF : Ok2 c.K r F) (hF' : Ok2 c.K r' F') {σ : L2.St} {H : Hp} {Q : VK} (q : tD c (eChain F F' f g h) σ H Q) : tChain r r' (tD c f) (tD c g) (tD c h) σ H Q := by
  obtain ⟨I, M, ρ, e, q⟩ := q
  refine ⟨I, M, ρ, e, q.bind.mono fun x hx v H1 M1 k1 e1 r1 => ?_⟩
  refine ⟨I, M1, ρ, e1, hx.bind.mono fun y hy u H2 M2 k2 e2 r2 => ?_⟩
  obtain ⟨z, hz, hp⟩ := hy.bind.noE
  refine hF M2 H2 v u x y z _ e2.mok (r1.same k2.m) r2 hz fun w H3 M3 g3 r3 => ?_
  have e3 := e2.grow g3
  have k3 : Step I.b M2 H2 M3 H3 := .of g3
  split at hp
  · cases r3
    refine ⟨true, rfl, ?_⟩
    rw [if_pos rfl]
    refine ⟨I, M3, ρ, e3, hp.bind.mono fun w hw v4 H4 M4 k4 e4 r4 => ?_⟩
    obtain ⟨d, hd, hp⟩ := hw.noE
    exact hF' M4 H4 u v4 y w d Q e4.mok (r2.same (g3.m.trans k4.m)) r4 hd (post_grow hp (((k1.trans k2).trans k3).trans k4) e4)
  · cases r3
    refine ⟨false, rfl, ?_⟩
    rw [if_neg Bool.false_ne_true]
    exact hp _ H3 M3 ((k1.trans k2).trans k3) e3 (.bl _)
  · exact hp.elim
theorem de_chain (C : CmpD X op F) (C' : CmpD X op' F') (K : c.K = X.K) (ha : DE X c a f) (hb : DE X c b g) (hc : DE X c d h) (hm : lastMarks [op, op'] [b, d] = false := by with_unfolding_all rfl) :
    DE X c (.Compare a [op, op'] [b, d] pos) (eChain F F' f g h) := ⟨PE.imp (pe_chain C.op C'.op ha.pe hb.pe hc.pe hm) fun σ H Q q => impChain (K ▸ C.ok) (K ▸ C'.ok) q⟩
theorem dt_chain (C : CmpD X op F) (C' : CmpD X op' F') (K : c.K = X.K) (ha : DE X c a f) (hb : DE X c b g) (hc : DE X c d h) (hm : lastMarks [op, op'] [b, d] = false := by with_unfolding_all rfl) :
    DT X c (.Compare a [op, op'] [b, d] pos) (tV (eChain F F' f g h)) := ⟨PT.imp (pt_chain C.op C'.op ha.pe hb.pe hc.pe hm) fun σ H Q q => impChain (K ▸ C.ok) (K ▸ C'.ok) (tV_imp q)⟩
/-- and, or, not as tests -/
def tAndD (f g : Env B → R Bool) : Env B → R Bool := fun ρ => (f ρ).bind fun x => if x = true then g ρ else .ok false
def tOrD (f g : Env B → R Bool) : Env B → R Bool := fun ρ => (f ρ).bind fun x => if x = true then .ok true else g ρ
def tNotD (f : Env B → R Bool) : Env B → R Bool := fun ρ => (f ρ).bind fun x => .ok (!x)
variable {u v : Env B → R Bool} {rest : List Expr}
theorem dw_and1 (h : DT X c a u) : DW X c (.BoolOp .And [a] pos) u := ⟨pw_and1 h.pt⟩
theorem dw_or1 (h : DT X c a u) : DW X c (.BoolOp .Or [a] pos) u := ⟨pw_or1 h.pt⟩
theorem dw_and (h : DT X c a u) (h' : DW X c (.BoolOp .And (b :: rest) pos) v) : DW X c (.BoolOp .And (a :: b :: rest) pos) (tAndD u v) := by
  refine ⟨PW.imp (pw_and h.pt h'.pw) fun σ H Q ⟨I, M, ρ, e, q⟩ => ?_⟩
  refine ⟨I, M, ρ, e, q.bind.mono fun x hx H1 M1 k1 e1 => ?_⟩
  cases x with
  | true => exact ⟨I, M1, ρ, e1, RD.mono hx fun y hy H2 M2 k2 e2 => hy H2 M2 (k1.trans k2) e2⟩
  | false => exact hx H1 M1 k1 e1
theorem dw_or (h : DT X c a u) (h' : DW X c (.BoolOp .Or (b :: rest) pos) v) : DW X c (.BoolOp .Or (a :: b :: rest) pos) (tOrD u v) := by
  refine ⟨PW.imp (pw_or h.pt h'.pw) fun σ H Q ⟨I, M, ρ, e, q⟩ => ?_⟩
  refine ⟨I, M, ρ, e, q.bind.mono fun x hx H1 M1 k1 e1 => ?_⟩
  cases x with
  | true => exact hx H1 M1 k1 e1
  | false => exact ⟨I, M1, ρ, e1, RD.mono hx fun y hy H2 M2 k2 e2 => hy H2 M2 (k1.trans k2) e2⟩
theorem dt_w (h : DW X c e u) : DT X c e u := ⟨h.pw.pt⟩
theorem dt_not (h : DT X c a u) : DT X c (.UnaryOp .Not a pos) (tNotD u) := by
  refine ⟨PT.imp (pt_not h.pt) fun σ H Q ⟨I, M, ρ, e, q⟩ => ?_⟩
  exact ⟨I, M, ρ, e, q.bind.mono fun x hx H1 M1 k1 e1 => hx H1 M1 k1 e1⟩
/-- .. as values -/
def eAnd (f g : Env B → R D) : Env B → R D := fun ρ => (f ρ).bind fun x => (toB x).bind fun x => if x = true then g ρ else .ok (.bool false)
def eOr (f g : Env B → R D) : Env B → R D := fun ρ => (f ρ).bind fun x => (toB x).bind fun x => if x = true then .ok (.bool true) else g ρ
def eNot (f : Env B → R D) : Env B → R D := fun ρ => (f ρ).bind fun x => (toB x).bind fun x => .ok (.bool !x)
theorem toB_rd {I : Ent} {x : D} {P : Bool → Prop} (h : RD c I (toB x) P) : ∃ b, x = .bool b ∧ P b := by
  unfold toB at h
  split at h
  · exact ⟨_, rfl, h⟩
  · exact h.elim
theorem de_one {op} (h : DE X c a f) : DE X c (.BoolOp op [a] pos) f := ⟨pe_one h.pe⟩
theorem de_and (ha : DE X c a f) (hb : DE X c (.BoolOp .And (b :: rest) pos) g) : DE X c (.BoolOp .And (a :: b :: rest) pos) (eAnd f g) := by
  refine ⟨PE.imp (pe_and ha.pe hb.pe) fun σ H Q ⟨I, M, ρ, e, q⟩ => ?_⟩
  refine ⟨I, M, ρ, e, q.bind.mono fun x hx v H1 M1 k1 e1 r1 => ?_⟩
  obtain ⟨b, rfl, hb⟩ := toB_rd hx.bind
  cases r1
  refine ⟨b, rfl, ?_⟩
  cases b with
  | true => exact ⟨I, M1, ρ, e1, RD.mono hb fun y hy v2 H2 M2 k2 e2 r2 => hy v2 H2 M2 (k1.trans k2) e2 r2⟩
  | false => exact hb _ H1 M1 k1 e1 (.bl _)
theorem de_or (ha : DE X c a f) (hb : DE X c (.BoolOp .Or (b :: rest) pos) g) : DE X c (.BoolOp .Or (a :: b :: rest) pos) (eOr f g) := by
  refine ⟨PE.imp (pe_or ha.pe hb.pe) fun σ H Q ⟨I, M, ρ, e, q⟩ => ?_⟩
  refine ⟨I, M, ρ, e, q.bind.mono fun x hx v H1 M1 k1 e1 r1 => ?_⟩
  obtain ⟨b, rfl, hb⟩ := toB_rd hx.bind
  cases r1
  refine ⟨b, rfl, ?_⟩
  cases b with
  | true => exact hb _ H1 M1 k1 e1 (.bl _)
  | false => exact ⟨I, M1, ρ, e1, RD.mono hb fun y hy v2 H2 M2 k2 e2 r2 => hy v2 H2 M2 (k1.trans k2) e2 r2⟩
theorem de_not (ha : DE X c a f) : DE X c (.UnaryOp .Not a pos) (eNot f) := by
  refine ⟨PE.imp (pe_not ha.pe) fun σ H Q ⟨I, M, ρ, e, q⟩ => ?_⟩
  refine ⟨I, M, ρ, e, q.bind.mono fun x hx v H1 M1 k1 e1 r1 => ?_⟩
  obtain ⟨b, rfl, hb⟩ := toB_rd hx.bind
  cases r1
  exact ⟨b, rfl, hb _ H1 M1 k1 e1 (.bl _)⟩
def eIf (t : Env B → R Bool) (f g : Env B → R D) : Env B → R D := fun ρ => (t ρ).bind fun x => if x = true then f ρ else g ρ
theorem de_if {t : Expr} (ht : DT X c t u) (ha : DE X c a f) (hb : DE X c b g) : DE X c (.IfExp t a b pos) (eIf u f g) := by
  refine ⟨PE.imp (pe_ifExp ht.pt ha.pe hb.pe) fun σ H Q ⟨I, M, ρ, e, q⟩ => ?_⟩
  refine ⟨I, M, ρ, e, q.bind.mono fun x hx H1 M1 k1 e1 => ?_⟩
  cases x with
  | true => exact ⟨I, M1, ρ, e1, RD.mono hx fun y hy v2 H2 M2 k2 e2 r2 => hy v2 H2 M2 (k1.trans k2) e2 r2⟩
  | false => exact ⟨I, M1, ρ, e1, RD.mono hx fun y hy v2 H2 M2 k2 e2 r2 => hy v2 H2 M2 (k1.trans k2) e2 r2⟩

/-! ### items -/
/-- the items of what is walked or read by place -/
def itemsOf : D → Option (List D)
  | .list xs => some xs
  | .tuple xs => some xs
  | .dict [(.none, .list xs)] => some xs
  | _ => none
def dIx : D → D → R D
  | x, .int i => match itemsOf x with
    | some xs => match atI xs i with
      | some y => .ok y
      | none => .stuck
    | none => .stuck
  | _, _ => .stuck
theorem Reps.atI {K : PySem.W.Frag} {M : Hp} {vs : List V} {ds : List D} (h : Reps K M vs ds) {i : Int} {y : D} (e : L2.atI ds i = some y) : ∃ v, L2.atI vs i = some v ∧ Rep K M v y := by
  unfold L2.atI at e ⊢
  rw [h.length]
  cases q : ixN ds.length i with
  | none => rw [q] at e; cases e
  | some j =>
    rw [q] at e
    exact h.get e
theorem Rep.items {K : PySem.W.Frag} {M H : Hp} (k : MOk M H) {v : V} {x : D} {xs : List D} (r : Rep K M v x) (e : itemsOf x = some xs) : ∃ p vs, v = .ref p ∧ (SqL K H p vs ∨ SqT K H p vs) ∧ Reps K M vs xs := by
  unfold itemsOf at e
  split at e
  · cases e
    cases r with
    | lst h q => exact ⟨_, _, rfl, .inl (SqL.of (k.same _ _ h)), q⟩
  · cases e
    cases r with
    | tup h q => exact ⟨_, _, rfl, .inr (sqT_same k.same h), q⟩
  · cases e
    cases r with
    | scr h q => exact ⟨_, _, rfl, .inl (k.same.seq h), q⟩
  · cases e
abbrev rIxLT (K : PySem.W.Frag) : R2 := fun x y H Q => rIxL K x y H Q ∨ rIxT K x y H Q
theorem ix_lt : IxR X (rIxLT X.K) := ix_list.or ix_tup
theorem ok_ix {K : PySem.W.Frag} : Ok2 K (rIxLT K) dIx := by
  intro M H v w dv dw d Q k rv rw' h q
  unfold dIx at h
  split at h
  · split at h
    · rename_i xs hx
      split at h
      · rename_i y hy
        cases h
        cases rw'
        obtain ⟨p, vs, rfl, hs, r⟩ := rv.items k hx
        obtain ⟨u, hu, ru⟩ := r.atI hy
        rcases hs with hs | hs
        · exact .inl ⟨_, _, _, _, rfl, rfl, hs, hu, q _ _ _ (.refl k) ru⟩
        · exact .inr ⟨_, _, _, _, rfl, rfl, hs, hu, q _ _ _ (.refl k) ru⟩
      · cases h
    · cases h
  · cases h
theorem de_ix (K : c.K = X.K) (ha : DE X c a f) (hb : DE X c b g) (hs : PlainIx b := by intro _ _; rfl) : DE X c (.Subscript a b pos) (e2 dIx f g) :=
  de_2 (fun p q => pe_ix ix_lt p q hs) (K ▸ ok_ix) ha hb

/-! ### slices -/
def tDO (c : Ctx B) (f : Env B → R (Option Int)) : TO := fun σ H Q => ∃ I M ρ, EnvR c.K I M H σ ρ ∧ RD c I (f ρ) fun o => ∀ H' M', Step I.b M H M' H' → EnvR c.K I M' H' σ ρ → Q o H'
structure DO (X : Cx) (c : Ctx B) (e : Option Expr) (f : Env B → R (Option Int)) : Prop where
  po : PO X e (tDO c f)
theorem PO.imp {e : Option Expr} {t u : TO} (h : PO X e t) (k : ∀ σ H Q, u σ H Q → t σ H Q) : PO X e u := ⟨fun pins s σ H Q I q => h.run pins s σ H Q I (k σ H Q q)⟩
def oNone : Env B → R (Option Int) := fun _ => .ok none
def oSome (f : Env B → R D) : Env B → R (Option Int) := fun ρ => (f ρ).bind fun x => match x with
  | .int i => .ok (some i)
  | _ => .stuck
theorem do_none : DO X c none (oNone : Env B → R (Option Int)) := ⟨PO.imp po_none fun σ H Q ⟨I, M, ρ, e, q⟩ => q H M .refl e⟩
theorem do_some (h : DE X c e f) : DO X c (some e) (oSome f) := by
  refine ⟨PO.imp (po_some h.pe) fun σ H Q ⟨I, M, ρ, e, q⟩ => ?_⟩
  refine ⟨I, M, ρ, e, q.bind.mono fun x hx v H1 M1 k1 e1 r1 => ?_⟩
  split at hx
  · cases r1
    exact ⟨_, rfl, hx H1 M1 k1 e1⟩
  · exact hx.elim
def cutD (xs : List D) (lo hi : Option Int) : List D := (xs.drop (HT.sIx xs.length 0 lo)).take (HT.sIx xs.length xs.length hi - HT.sIx xs.length 0 lo)
theorem Reps.cut {K : PySem.W.Frag} {M : Hp} {vs : List V} {ds : List D} (h : Reps K M vs ds) (lo hi : Option Int) : Reps K M (cutV vs lo hi) (cutD ds lo hi) := by
  unfold cutV cutD
  rw [h.length]
  exact (h.drop _).take _
theorem cutD_whole {xs : List D} {lo hi : Option Int} (h : HT.sIx xs.length 0 lo = 0 ∧ HT.sIx xs.length xs.length hi = xs.length) : cutD xs lo hi = xs := by
  unfold cutD
  rw [h.1, h.2]
  simp
def dSl (x : D) (lo hi : Option Int) : R D := match x with
  | .list xs => .ok (.list (cutD xs lo hi))
  | .tuple xs => .ok (.tuple (cutD xs lo hi))
  | _ => .stuck
def eSl (f : Env B → R D) (l u : Env B → R (Option Int)) : Env B → R D := fun ρ => (f ρ).bind fun x => (l ρ).bind fun lo => (u ρ).bind fun hi => noE (dSl x lo hi)
abbrev rSlA2 (K : PySem.W.Frag) : V → Option Int → Option Int → Hp → VK → Prop := fun x lo hi H Q => rSlL K x lo hi H Q ∨ rSlA K x lo hi H Q
theorem sl_lt : SlR X (rSlA2 X.K) := sl_list.or sl_tupA
theorem de_sl {lo hi : Option Expr} {l u : Env B → R (Option Int)} {p2 : Pos} (K : c.K = X.K) (he : DE X c e f) (hl : DO X c lo l) (hu : DO X c hi u) : DE X c (.Subscript e (.Slice lo hi none p2) pos) (eSl f l u) := by
  refine ⟨PE.imp (pe_slice sl_lt he.pe hl.po hu.po) fun σ H Q ⟨I, M, ρ, e, q⟩ => ?_⟩
  refine ⟨I, M, ρ, e, q.bind.mono fun x hx v H1 M1 k1 e1 r1 => ?_⟩
  refine ⟨I, M1, ρ, e1, hx.bind.mono fun lo hx H2 M2 k2 e2 => ?_⟩
  refine ⟨I, M2, ρ, e2, hx.bind.mono fun hi hx H3 M3 k3 e3 => ?_⟩
  obtain ⟨d, hd, hp⟩ := hx.noE
  have r3 := r1.same (k2.m.trans k3.m)
  have kk := (k1.trans k2).trans k3
  have fin := post_grow hp kk e3
  unfold dSl at hd
  split at hd
  · cases hd
    cases r3 with
    | lst h r =>
      exact .inl ⟨_, _, rfl, SqL.of (e3.mok.same _ _ h), fun p hp => fin _ _ _ (.alloc e3.mok hp rfl) (.newL (e3.mok.free hp) (r.cut lo hi))⟩
  · cases hd
    cases r3 with
    | tup h r =>
      refine .inr ⟨_, _, rfl, K ▸ sqT_same e3.mok.same h, fun w => ?_, fun _ p hp => fin _ _ _ (.alloc e3.mok hp rfl) (.newT (e3.mok.free hp) (r.cut lo hi))⟩
      rw [r.length] at w
      have ew := cutD_whole w
      rw [ew] at fin
      exact fin _ _ _ (.refl e3.mok) (.tup h r)
  · cases hd
/-- xs[::-1] of a list -/
def dRev : D → R D
  | .list xs => .ok (.list xs.reverse)
  | _ => .stuck
theorem de_rev {j : Nat} {p1 p2 p3 : Pos} (he : DE X c e f) : DE X c (.Subscript e (.Slice none none (some (.UnaryOp .USub (.Constant (.int 1) j p1) p2)) p3) pos) (e1 dRev f) := by
  refine ⟨PE.imp (pe_revL he.pe) fun σ H Q ⟨I, M, ρ, e, q⟩ => ?_⟩
  refine ⟨I, M, ρ, e, q.bind.mono fun x hx v H1 M1 k1 e1 r1 => ?_⟩
  obtain ⟨d, hd, hp⟩ := hx.noE
  unfold dRev at hd
  split at hd
  · cases hd
    cases r1 with
    | lst h r => exact ⟨_, _, rfl, SqL.of (e1.mok.same _ _ h), fun p hq => post_grow hp k1 e1 _ _ _ (.alloc e1.mok hq rfl) (.newL (e1.mok.free hq) r.reverse)⟩
  · cases hd

/-! ### built-in calls -/
def dLen : List D → R D
  | [x] => match itemsOf x with
    | some xs => .ok (.int xs.length)
    | none => .stuck
  | _ => .stuck
theorem ok_len {K : PySem.W.Frag} : OkA K (fun xs H Q => ∃ x n, xs = [x] ∧ LenV K x H n ∧ Q (.int n) H) dLen := by
  intro M H vs ds d Q k r h q
  unfold dLen at h
  split at h
  · split at h
    · rename_i xs hx
      cases h
      cases r with
      | cons r1 r2 =>
        cases r2
        obtain ⟨p, vs, rfl, hs, rr⟩ := r1.items k hx
        refine ⟨_, vs.length, rfl, ?_, ?_⟩
        · rcases hs with hs | hs
          · exact .inl ⟨_, hs, rfl⟩
          · exact .inr ⟨_, hs, rfl⟩
        · rw [rr.length]
          exact q _ _ _ (.refl k) (.int _)
    · cases h
  · cases h
theorem de_len {es : List Expr} {f : Env B → R (List D)} {p : Pos} (K : c.K = X.K) (hm : X.mg "len" = none) (ha : DA X c (e :: es) f) (hg : Gl X "len" := by rfl) (he : starEach (e :: es) X.env = (false, eval e X.env) :: starEach es X.env := by rfl) (hpl : (backTo pos (starEach es X.env)).any (·.1) = false := by rfl) :
    DE X c (.Call (.Name "len" p) (e :: es) [] pos) (eA dLen f) := de_A (fun q => pe_callB call_len hg hm PySem.boot_len q (he := he) (hpl := hpl)) (K ▸ ok_len) ha
/-- list(x), tuple(x) -/
def dList : List D → R D
  | [x] => match itemsOf x with
    | some xs => .ok (.list xs)
    | none => .stuck
  | _ => .stuck
def dTuple : List D → R D
  | [x] => match itemsOf x with
    | some xs => .ok (.tuple xs)
    | none => .stuck
  | _ => .stuck
theorem ok_list {K : PySem.W.Frag} : OkA K (fun xs H Q => ∃ p ys, xs = [.ref p] ∧ (SqL K H p ys ∨ SqT K H p ys) ∧ ∀ l, H l = none → Q (.ref l) (upd H l (.lst ys))) dList := by
  intro M H vs ds d Q k r h q
  unfold dList at h
  split at h
  · split at h
    · rename_i xs hx
      cases h
      cases r with
      | cons r1 r2 =>
        cases r2
        obtain ⟨p, vs, rfl, hs, rr⟩ := r1.items k hx
        exact ⟨_, _, rfl, hs, fun l hl => q _ _ _ (.alloc k hl rfl) (.newL (k.free hl) rr)⟩
    · cases h
  · cases h
theorem ok_tuple {K : PySem.W.Frag} : OkA K (fun xs H Q => ∃ p ys, xs = [.ref p] ∧ ((SqL K H p ys ∧ ∀ l, H l = none → Q (.ref l) (upd H l (.tup ys))) ∨ (SqT K H p ys ∧ Q (.ref p) H))) dTuple := by
  intro M H vs ds d Q k r h q
  unfold dTuple at h
  split at h
  · split at h
    · rename_i xs hx
      cases h
      cases r with
      | cons r1 r2 =>
        cases r2
        cases r1 with
        | tup h r =>
          cases hx
          exact ⟨_, _, rfl, .inr ⟨sqT_same k.same h, q _ _ _ (.refl k) (.tup h r)⟩⟩
        | lst h r =>
          cases hx
          exact ⟨_, _, rfl, .inl ⟨SqL.of (k.same _ _ h), fun l hl => q _ _ _ (.alloc k hl rfl) (.newT (k.free hl) r)⟩⟩
        | scr h r =>
          cases hx
          exact ⟨_, _, rfl, .inl ⟨k.same.seq h, fun l hl => q _ _ _ (.alloc k hl rfl) (.newT (k.free hl) r)⟩⟩
        | _ => cases hx
    · cases h
  · cases h
theorem boot_listT : bootBuiltins "list" = some (.type "list") := by decide +kernel
theorem boot_tupleT : bootBuiltins "tuple" = some (.type "tuple") := by decide +kernel
theorem boot_intT : bootBuiltins "int" = some (.type "int") := by decide +kernel
theorem boot_boolT : bootBuiltins "bool" = some (.type "bool") := by decide +kernel
theorem boot_strT : bootBuiltins "str" = some (.type "str") := by decide +kernel
theorem boot_sumB : bootBuiltins "sum" = some (.builtin "sum") := by decide +kernel
theorem boot_maxB : bootBuiltins "max" = some (.builtin "max") := by decide +kernel
theorem boot_minB : bootBuiltins "min" = some (.builtin "min") := by decide +kernel
theorem boot_allB : bootBuiltins "all" = some (.builtin "all") := by decide +kernel
theorem boot_isiB : bootBuiltins "isinstance" = some (.builtin "isinstance") := by decide +kernel
theorem de_list {es : List Expr} {f : Env B → R (List D)} {p : Pos} (K : c.K = X.K) (hm : X.mg "list" = none) (ha : DA X c (e :: es) f) (hg : Gl X "list" := by rfl) (he : starEach (e :: es) X.env = (false, eval e X.env) :: starEach es X.env := by rfl) (hpl : (backTo pos (starEach es X.env)).any (·.1) = false := by rfl) :
    DE X c (.Call (.Name "list" p) (e :: es) [] pos) (eA dList f) := de_A (fun q => pe_callTy call_list_of hg hm boot_listT q (he := he) (hpl := hpl)) (K ▸ ok_list) ha
theorem de_tuple {es : List Expr} {f : Env B → R (List D)} {p : Pos} (K : c.K = X.K) (hm : X.mg "tuple" = none) (ha : DA X c (e :: es) f) (hg : Gl X "tuple" := by rfl) (he : starEach (e :: es) X.env = (false, eval e X.env) :: starEach es X.env := by rfl) (hpl : (backTo pos (starEach es X.env)).any (·.1) = false := by rfl) :
    DE X c (.Call (.Name "tuple" p) (e :: es) [] pos) (eA dTuple f) := de_A (fun q => pe_callTy call_tuple_of hg hm boot_tupleT q (he := he) (hpl := hpl)) (K ▸ ok_tuple) ha
/-- int(x) of an int or a truth value -/
def dInt : List D → R D
  | [.int i] => .ok (.int i)
  | [.bool b] => .ok (.int (if b then 1 else 0))
  | _ => .stuck
theorem ok_int {K : PySem.W.Frag} : OkA K (fun xs H Q => (∃ i, xs = [.int i] ∧ Q (.int i) H) ∨ ∃ k, xs = [.bl k] ∧ Q (.int (if k then 1 else 0)) H) dInt := by
  intro M H vs ds d Q k r h q
  unfold dInt at h
  split at h
  · cases h
    cases r with
    | cons r1 r2 => cases r2; cases r1; exact .inl ⟨_, rfl, q _ _ _ (.refl k) (.int _)⟩
  · cases h
    cases r with
    | cons r1 r2 => cases r2; cases r1; exact .inr ⟨_, rfl, q _ _ _ (.refl k) (.int _)⟩
  · cases h
theorem de_intc {es : List Expr} {f : Env B → R (List D)} {p : Pos} (hm : X.mg "int" = none) (ha : DA X c (e :: es) f) (hg : Gl X "int" := by rfl) (he : starEach (e :: es) X.env = (false, eval e X.env) :: starEach es X.env := by rfl) (hpl : (backTo pos (starEach es X.env)).any (·.1) = false := by rfl) :
    DE X c (.Call (.Name "int" p) (e :: es) [] pos) (eA dInt f) := de_A (fun q => pe_callTy call_int1 hg hm boot_intT q (he := he) (hpl := hpl)) ok_int ha
/-- lists of ints, of truth values -/
def intsOf : List D → Option (List Int)
  | [] => some []
  | .int i :: r => (intsOf r).map (i :: ·)
  | _ :: _ => none
theorem intsOf_eq : ∀ {ds : List D} {ns : List Int}, intsOf ds = some ns → ds = ns.map PyData.int
  | [], ns, h => by simp [intsOf] at h; subst h; rfl
  | .int i :: r, ns, h => by
    simp only [intsOf, Option.map_eq_some_iff] at h
    obtain ⟨m, h1, rfl⟩ := h
    rw [intsOf_eq h1]; rfl
  | .none :: _, _, h | .bool _ :: _, _, h | .str _ :: _, _, h | .list _ :: _, _, h | .tuple _ :: _, _, h | .dict _ :: _, _, h => by simp [intsOf] at h
theorem intsOf_map (ns : List Int) : intsOf (ns.map PyData.int) = some ns := by
  induction ns with
  | nil => rfl
  | cons n r ih => simp [intsOf, ih]
def boolsOf : List D → Option (List Bool)
  | [] => some []
  | .bool i :: r => (boolsOf r).map (i :: ·)
  | _ :: _ => none
theorem boolsOf_eq : ∀ {ds : List D} {ns : List Bool}, boolsOf ds = some ns → ds = ns.map PyData.bool
  | [], ns, h => by simp [boolsOf] at h; subst h; rfl
  | .bool i :: r, ns, h => by
    simp only [boolsOf, Option.map_eq_some_iff] at h
    obtain ⟨m, h1, rfl⟩ := h
    rw [boolsOf_eq h1]; rfl
  | .none :: _, _, h | .int _ :: _, _, h | .str _ :: _, _, h | .list _ :: _, _, h | .tuple _ :: _, _, h | .dict _ :: _, _, h => by simp [boolsOf] at h
theorem boolsOf_map (ns : List Bool) : boolsOf (ns.map PyData.bool) = some ns := by
  induction ns with
  | nil => rfl
  | cons n r ih => simp [boolsOf, ih]
def dSum : List D → R D
  | [.list xs] => match intsOf xs with
    | some ns => .ok (.int ns.sum)
    | none => .stuck
  | _ => .stuck
def dAll : List D → R D
  | [.list xs] => match boolsOf xs with
    | some ns => .ok (.bool (ns.all id))
    | none => .stuck
  | _ => .stuck
def maxI : Int → List Int → Int
  | m, [] => m
  | m, n :: r => maxI (if m < n then n else m) r
def minI : Int → List Int → Int
  | m, [] => m
  | m, n :: r => minI (if n < m then n else m) r
theorem maxI_spec : ∀ (r : List Int) (m : Int), (maxI m r = m ∨ maxI m r ∈ r) ∧ m ≤ maxI m r ∧ ∀ y ∈ r, y ≤ maxI m r
  | [], m => ⟨.inl rfl, Int.le_refl _, fun y hy => by cases hy⟩
  | n :: r, m => by
    obtain ⟨h1, h2, h3⟩ := maxI_spec r (if m < n then n else m)
    have e : maxI m (n :: r) = maxI (if m < n then n else m) r := rfl
    rw [e]
    refine ⟨?_, ?_, fun y hy => ?_⟩
    · rcases h1 with h1 | h1
      · by_cases hc : m < n
        · rw [if_pos hc] at h1 ⊢; rw [h1]; exact .inr (by simp)
        · rw [if_neg hc] at h1 ⊢; rw [h1]; exact .inl rfl
      · exact .inr (List.mem_cons_of_mem _ h1)
    · by_cases hc : m < n
      · rw [if_pos hc] at h2 ⊢; omega
      · rw [if_neg hc] at h2 ⊢; exact h2
    · rcases List.mem_cons.mp hy with rfl | hy
      · by_cases hc : m < y
        · rw [if_pos hc] at h2 ⊢; exact h2
        · rw [if_neg hc] at h2 ⊢; omega
      · exact h3 y hy
theorem minI_spec : ∀ (r : List Int) (m : Int), (minI m r = m ∨ minI m r ∈ r) ∧ minI m r ≤ m ∧ ∀ y ∈ r, minI m r ≤ y
  | [], m => ⟨.inl rfl, Int.le_refl _, fun y hy => by cases hy⟩
  | n :: r, m => by
    obtain ⟨h1, h2, h3⟩ := minI_spec r (if n < m then n else m)
    have e : minI m (n :: r) = minI (if n < m then n else m) r := rfl
    rw [e]
    refine ⟨?_, ?_, fun y hy => ?_⟩
    · rcases h1 with h1 | h1
      · by_cases hc : n < m
        · rw [if_pos hc] at h1 ⊢; rw [h1]; exact .inr (by simp)
        · rw [if_neg hc] at h1 ⊢; rw [h1]; exact .inl rfl
      · exact .inr (List.mem_cons_of_mem _ h1)
    · by_cases hc : n < m
      · rw [if_pos hc] at h2 ⊢; omega
      · rw [if_neg hc] at h2 ⊢; exact h2
    · rcases List.mem_cons.mp hy with rfl | hy
      · by_cases hc : y < m
        · rw [if_pos hc] at h2 ⊢; exact h2
        · rw [if_neg hc] at h2 ⊢; omega
      · exact h3 y hy
def dMax : List D → R D
  | [.list xs] => match intsOf xs with
    | some (n :: r) => .ok (.int (maxI n r))
    | _ => .stuck
  | _ => .stuck
def dMin : List D → R D
  | [.list xs] => match intsOf xs with
    | some (n :: r) => .ok (.int (minI n r))
    | _ => .stuck
  | [.int i, .int j] => .ok (.int (if j < i then j else i))
  | _ => .stuck
theorem ok_sum {K : PySem.W.Frag} : OkA K (rSum K) dSum := by
  intro M H vs ds d Q k r h q
  unfold dSum at h
  split at h
  · split at h
    · rename_i ns hn
      cases h
      cases intsOf_eq hn
      cases r with
      | cons r1 r2 =>
        cases r2
        cases r1 with
        | lst h r =>
          cases r.ints
          exact ⟨_, _, rfl, SqL.of (k.same _ _ h), q _ _ _ (.refl k) (.int _)⟩
    · cases h
  · cases h
theorem ok_all {K : PySem.W.Frag} : OkA K (rAll K) dAll := by
  intro M H vs ds d Q k r h q
  unfold dAll at h
  split at h
  · split at h
    · rename_i ns hn
      cases h
      cases boolsOf_eq hn
      cases r with
      | cons r1 r2 =>
        cases r2
        cases r1 with
        | lst h r =>
          cases r.bools
          exact ⟨_, _, rfl, SqL.of (k.same _ _ h), q _ _ _ (.refl k) (.bl _)⟩
    · cases h
  · cases h
theorem ok_max {K : PySem.W.Frag} : OkA K (rMax K) dMax := by
  intro M H vs ds d Q k r h q
  unfold dMax at h
  split at h
  · split at h
    · rename_i n l hn
      cases h
      cases intsOf_eq hn
      cases r with
      | cons r1 r2 =>
        cases r2
        cases r1 with
        | lst h r =>
          cases r.ints
          refine ⟨_, _, rfl, SqL.of (k.same _ _ h), Nat.succ_pos _, fun m hm hy => ?_⟩
          obtain ⟨a1, a2, a3⟩ := maxI_spec l n
          have e : m = maxI n l := by
            apply Int.le_antisymm
            · rcases List.mem_cons.mp hm with rfl | hm
              · exact a2
              · exact a3 m hm
            · rcases a1 with a1 | a1
              · rw [a1]; exact hy n (by simp)
              · exact hy _ (List.mem_cons_of_mem _ a1)
          rw [e]
          exact q _ _ _ (.refl k) (.int _)
    · cases h
  · cases h
abbrev rMin2 : List V → Hp → VK → Prop := fun xs H Q => ∃ i j, xs = [.int i, .int j] ∧ Q (.int (if j < i then j else i)) H
theorem ok_min {K : PySem.W.Frag} : OkA K (fun xs H Q => rMin K xs H Q ∨ rMin2 xs H Q) dMin := by
  intro M H vs ds d Q k r h q
  unfold dMin at h
  split at h
  · split at h
    · rename_i n l hn
      cases h
      cases intsOf_eq hn
      cases r with
      | cons r1 r2 =>
        cases r2
        cases r1 with
        | lst h r =>
          cases r.ints
          refine .inl ⟨_, _, rfl, SqL.of (k.same _ _ h), Nat.succ_pos _, fun m hm hy => ?_⟩
          obtain ⟨a1, a2, a3⟩ := minI_spec l n
          have e : m = minI n l := by
            apply Int.le_antisymm
            · rcases a1 with a1 | a1
              · rw [a1]; exact hy n (by simp)
              · exact hy _ (List.mem_cons_of_mem _ a1)
            · rcases List.mem_cons.mp hm with rfl | hm
              · exact a2
              · exact a3 m hm
          rw [e]
          exact q _ _ _ (.refl k) (.int _)
    · cases h
  · cases h
    cases r with
    | cons r1 r2 =>
      cases r2 with
      | cons r2 r3 =>
        cases r3; cases r1; cases r2
        exact .inr ⟨_, _, rfl, q _ _ _ (.refl k) (.int _)⟩
  · cases h
theorem de_sum {es : List Expr} {f : Env B → R (List D)} {p : Pos} (K : c.K = X.K) (hc : X.calm = true) (hm : X.mg "sum" = none) (ha : DA X c (e :: es) f) (hg : Gl X "sum" := by rfl) (he : starEach (e :: es) X.env = (false, eval e X.env) :: starEach es X.env := by rfl) (hpl : (backTo pos (starEach es X.env)).any (·.1) = false := by rfl) :
    DE X c (.Call (.Name "sum" p) (e :: es) [] pos) (eA dSum f) := de_A (fun q => pe_callB (cr_sum hc) hg hm boot_sumB q (he := he) (hpl := hpl)) (K ▸ ok_sum) ha
theorem de_all {es : List Expr} {f : Env B → R (List D)} {p : Pos} (K : c.K = X.K) (hc : X.calm = true) (hm : X.mg "all" = none) (ha : DA X c (e :: es) f) (hg : Gl X "all" := by rfl) (he : starEach (e :: es) X.env = (false, eval e X.env) :: starEach es X.env := by rfl) (hpl : (backTo pos (starEach es X.env)).any (·.1) = false := by rfl) :
    DE X c (.Call (.Name "all" p) (e :: es) [] pos) (eA dAll f) := de_A (fun q => pe_callB (cr_all hc) hg hm boot_allB q (he := he) (hpl := hpl)) (K ▸ ok_all) ha
theorem de_max {es : List Expr} {f : Env B → R (List D)} {p : Pos} (K : c.K = X.K) (hc : X.calm = true) (hm : X.mg "max" = none) (ha : DA X c (e :: es) f) (hg : Gl X "max" := by rfl) (he : starEach (e :: es) X.env = (false, eval e X.env) :: starEach es X.env := by rfl) (hpl : (backTo pos (starEach es X.env)).any (·.1) = false := by rfl) :
    DE X c (.Call (.Name "max" p) (e :: es) [] pos) (eA dMax f) := de_A (fun q => pe_callB (cr_max hc) hg hm boot_maxB q (he := he) (hpl := hpl)) (K ▸ ok_max) ha
theorem de_min {es : List Expr} {f : Env B → R (List D)} {p : Pos} (K : c.K = X.K) (hc : X.calm = true) (hm : X.mg "min" = none) (ha : DA X c (e :: es) f) (hg : Gl X "min" := by rfl) (he : starEach (e :: es) X.env = (false, eval e X.env) :: starEach es X.env := by rfl) (hpl : (backTo pos (starEach es X.env)).any (·.1) = false := by rfl) :
    DE X c (.Call (.Name "min" p) (e :: es) [] pos) (eA dMin f) := de_A (fun q => pe_callB ((cr_min hc).or (call_min2 hc)) hg hm boot_minB q (he := he) (hpl := hpl)) (K ▸ ok_min) ha
/-- isinstance(x, T), T built in -/
def tyD : D → Option String
  | .none => some "NoneType"
  | .bool _ => some "bool"
  | .int _ => some "int"
  | .str _ => some "str"
  | .list _ => some "list"
  | .tuple _ => some "tuple"
  | .dict [] => some "dict"
  | .dict (_ :: _) => none
def dIsi (T : String) (x : D) : R D := match tyD x with
  | some t => match kitB t T with
    | some b => .ok (.bool b)
    | none => .stuck
  | none => .stuck
theorem Rep.tyX {K : PySem.W.Frag} {M H : Hp} (k : MOk M H) {v : V} {x : D} {t : String} (r : Rep K M v x) (e : tyD x = some t) : TyX K H v (.type t) := by
  cases r with
  | non => cases e; exact .base .non
  | bl b => cases e; exact .base (.bl b)
  | int b => cases e; exact .base (.int b)
  | str b => cases e; exact .base (.str b)
  | lst h _ => cases e; exact .base (.lst (k.same _ _ h))
  | scr h _ => cases e
  | dic h => cases e; exact .base (.dK (k.same _ _ h))
  | tup h _ =>
    cases e
    rcases h with (h | ⟨o, h⟩) | ⟨o, its, n, h, hc, _⟩
    · exact .base (.tup (k.same _ _ h))
    · exact .fTuple (k.same _ _ h)
    · exact .kTuple h hc
theorem ClsV_ty (n : String) : ClsV (.ty n) (.type n) := by constructor
theorem de_isi {T : String} {x : Str} {p p2 : Pos} (K : c.K = X.K) (hm : X.mg "isinstance" = none) (hmT : X.mg x = none) (hv : bootBuiltins x = some (.type T)) (ha : DE X c a f) (hg : Gl X "isinstance" := by rfl) (hgT : Gl X x := by rfl)
    (hn : x ≠ "__name__" := by decide) (hd : (x == ("__debug__" : Str)) = false := by decide) (hs : starEach [a, .Name x p2] X.env = (false, eval a X.env) :: starEach [.Name x p2] X.env := by rfl) (hs2 : starEach [.Name x p2] X.env = (false, eval (.Name x p2) X.env) :: starEach [] X.env := by rfl)
    (hpl : (backTo pos (starEach [.Name x p2] X.env)).any (·.1) = false := by rfl) :
    DE X c (.Call (.Name "isinstance" p) [a, .Name x p2] [] pos) (e1 (dIsi T) f) := by
  have hT : PE X (.Name x p2) (tC (.ty T)) := pe_bltn hgT hmT hv rfl hn hd
  refine ⟨PE.imp (pe_callB call_isi hg hm boot_isiB (pa_cons ha.pe (pa_cons hT pa_nil hs2) hs) (he := hs) (hpl := hpl)) fun σ H Q ⟨I, M, ρ, e, q⟩ => ?_⟩
  refine ⟨I, M, ρ, e, q.bind.mono fun x hx v H1 M1 k1 e1 r1 => ?_⟩
  obtain ⟨d, hd, hp⟩ := hx.noE
  unfold dIsi at hd
  split at hd
  · rename_i t ht
    split at hd
    · rename_i b hb
      cases hd
      exact ⟨_, _, _, _, b, rfl, ClsV_ty T, K ▸ r1.tyX e1.mok ht, kit_ty hb, hp _ H1 M1 k1 e1 (.bl _)⟩
    · cases hd
  · cases hd
end
end PL

set_option Elab.async false
set_option linter.all false
set_option maxRecDepth 100000
set_option maxHeartbeats 4000000
/-! targets, what is walked, comprehensions, fresh lists -/
namespace PL
open PySem PySem.Spec PyProof.Rows L2
section
variable {B : ObjB} {K : PySem.W.Frag} {I : Ent} {M H M' H' : Hp} {σ σ' : L2.St} {ρ ρ' : Env B}

/-! ### environments that change -/
theorem EnvR.set {i : Nat} {v : V} {d : D} (e : EnvR K I M H σ ρ) (r : Rep K M v d) : EnvR K I M H (σ.set i (some v)) (ρ.set i (.val d)) where
  len := by rw [List.length_set, List.length_set]; exact e.len
  ent := e.ent
  msub := e.msub
  mok := e.mok
  mnew := e.mnew
  slots := fun j s h => by
    by_cases hj : i = j
    · subst hj
      by_cases hl : i < ρ.length
      · rw [List.getElem?_set_self hl] at h
        cases h
        exact ⟨v, by rw [List.getElem?_set_self (by rw [e.len]; exact hl)], r⟩
      · rw [List.getElem?_eq_none (by rw [List.length_set]; omega)] at h; cases h
    · rw [List.getElem?_set_ne hj] at h ⊢
      exact e.slots j s h
  apart := fun j k ds es hne h1 h2 => by
    have nj : i ≠ j := fun z => by
      subst z
      by_cases hl : i < ρ.length
      · rw [List.getElem?_set_self hl] at h1; cases h1
      · rw [List.getElem?_eq_none (by rw [List.length_set]; omega)] at h1; cases h1
    have nk : i ≠ k := fun z => by
      subst z
      by_cases hl : i < ρ.length
      · rw [List.getElem?_set_self hl] at h2; cases h2
      · rw [List.getElem?_eq_none (by rw [List.length_set]; omega)] at h2; cases h2
    rw [List.getElem?_set_ne nj] at h1 ⊢
    rw [List.getElem?_set_ne nk] at h2 ⊢
    exact e.apart j k ds es hne h1 h2
theorem EnvR.setNo {i : Nat} {w : Option V} (e : EnvR K I M H σ ρ) : EnvR K I M H (σ.set i w) (ρ.set i .no) where
  len := by rw [List.length_set, List.length_set]; exact e.len
  ent := e.ent
  msub := e.msub
  mok := e.mok
  mnew := e.mnew
  slots := fun j s h => by
    by_cases hj : i = j
    · subst hj
      by_cases hl : i < ρ.length
      · rw [List.getElem?_set_self hl] at h
        cases h
        trivial
      · rw [List.getElem?_eq_none (by rw [List.length_set]; omega)] at h; cases h
    · rw [List.getElem?_set_ne hj] at h ⊢
      exact e.slots j s h
  apart := fun j k ds es hne h1 h2 => by
    have nj : i ≠ j := fun z => by
      subst z
      by_cases hl : i < ρ.length
      · rw [List.getElem?_set_self hl] at h1; cases h1
      · rw [List.getElem?_eq_none (by rw [List.length_set]; omega)] at h1; cases h1
    have nk : i ≠ k := fun z => by
      subst z
      by_cases hl : i < ρ.length
      · rw [List.getElem?_set_self hl] at h2; cases h2
      · rw [List.getElem?_eq_none (by rw [List.length_set]; omega)] at h2; cases h2
    rw [List.getElem?_set_ne nj] at h1 ⊢
    rw [List.getElem?_set_ne nk] at h2 ⊢
    exact e.apart j k ds es hne h1 h2
/-- a new list is the name's own -/
theorem EnvR.setOwn {i : Nat} {l : Addr} {vs : List V} {ds : List D} (e : EnvR K I M H σ ρ) (hl : H l = some (.lst vs)) (ml : M l = none) (il : I.H l = none) (r : Reps K M vs ds)
    (ne : ∀ (j : Nat) (es : List D), i ≠ j → ρ[j]? = some (.own es) → σ[j]? ≠ some (some (.ref l))) : EnvR K I M H (σ.set i (some (.ref l))) (ρ.set i (.own ds)) where
  len := by rw [List.length_set, List.length_set]; exact e.len
  ent := e.ent
  msub := e.msub
  mok := e.mok
  mnew := e.mnew
  slots := fun j s h => by
    by_cases hj : i = j
    · subst hj
      by_cases hl' : i < ρ.length
      · rw [List.getElem?_set_self hl'] at h
        cases h
        exact ⟨l, vs, by rw [List.getElem?_set_self (by rw [e.len]; exact hl')], hl, ml, il, r⟩
      · rw [List.getElem?_eq_none (by rw [List.length_set]; omega)] at h; cases h
    · rw [List.getElem?_set_ne hj] at h ⊢
      exact e.slots j s h
  apart := fun j k ds' es hne h1 h2 => by
    by_cases hj : i = j
    · subst hj
      by_cases hl' : i < ρ.length
      · rw [List.getElem?_set_ne hne] at h2 ⊢
        rw [List.getElem?_set_self (by rw [e.len]; exact hl')]
        exact fun z => ne k es hne h2 z.symm
      · rw [List.getElem?_eq_none (by rw [List.length_set]; omega)] at h1; cases h1
    · rw [List.getElem?_set_ne hj] at h1 ⊢
      by_cases hk : i = k
      · subst hk
        by_cases hl' : i < ρ.length
        · rw [List.getElem?_set_self (by rw [e.len]; exact hl')]
          exact ne j ds' hj h1
        · rw [List.getElem?_eq_none (by rw [List.length_set]; omega)] at h2; cases h2
      · rw [List.getElem?_set_ne hk] at h2 ⊢
        exact e.apart j k ds' es hne h1 h2
/-- a list that stands is taken among what stays -/
theorem EnvR.adopt {l : Addr} {o : HO} (e : EnvR K I M H σ ρ) (hl : H l = some o) (io : imm o = true) (ml : M l = none) (il : I.H l = none) (ne : ∀ (j : Nat) (es : List D), ρ[j]? = some (.own es) → σ[j]? ≠ some (some (.ref l))) :
    EnvR K I (upd M l o) H σ ρ where
  len := e.len
  ent := e.ent
  msub := e.msub.trans (upd_same_of ml)
  mok := fun a u h => by
    by_cases z : a = l
    · subst z; rw [upd_same] at h; cases h; exact ⟨hl, io⟩
    · rw [upd_ne z] at h; exact e.mok a u h
  mnew := fun a u h n => by
    by_cases z : a = l
    · subst z; exact il
    · rw [upd_ne z] at h; exact e.mnew a u h n
  slots := fun j s h => by
    have q := e.slots j s h
    have sm : Same M (upd M l o) := upd_same_of ml
    cases s with
    | no => trivial
    | val d => obtain ⟨v, a, r⟩ := q; exact ⟨v, a, r.same sm⟩
    | own ds =>
      obtain ⟨l', vs, a, h1, h2, h3, r⟩ := q
      have nl : l' ≠ l := fun z => by subst z; exact ne j ds h a
      exact ⟨l', vs, a, h1, by rw [upd_ne nl]; exact h2, h3, r.same sm⟩
    | obj z =>
      obtain ⟨v, a, r⟩ := q
      refine ⟨v, a, B.mono _ _ _ _ _ _ _ _ r sm (fun b u q n => ?_) fun _ _ x _ _ => x⟩
      by_cases z : b = l
      · subst z; exact .inl il
      · rw [upd_ne z, n] at q; cases q
  apart := e.apart
/-- an own list is taken among what stays -/
theorem EnvR.freeze {i : Nat} {ds : List D} (e : EnvR K I M H σ ρ) (h : ρ[i]? = some (.own ds)) : ∃ l vs, σ[i]? = some (some (.ref l)) ∧ H l = some (.lst vs) ∧ M l = none ∧ I.H l = none ∧ Reps K M vs ds ∧ EnvR K I (upd M l (.lst vs)) H σ (ρ.set i (.val (.list ds))) := by
  obtain ⟨l, vs, a, hl, ml, il, r⟩ := e.slots i _ h
  refine ⟨l, vs, a, hl, ml, il, r, ?_⟩
  have e0 : EnvR K I M H (σ.set i (some (.ref l))) (ρ.set i .no) := e.setNo
  have eσ : σ.set i (some (.ref l)) = σ := by
    apply List.ext_getElem?
    intro j
    by_cases hj : i = j
    · subst hj
      have hi : i < σ.length := (List.getElem?_eq_some_iff.mp a).1
      rw [List.getElem?_set_self hi, a]
    · rw [List.getElem?_set_ne hj]
  rw [eσ] at e0
  have e1 := e0.adopt (l := l) (o := .lst vs) hl rfl ml il fun j es hj hs => by
    by_cases z : i = j
    · subst z
      by_cases hl' : i < ρ.length
      · rw [List.getElem?_set_self hl'] at hj; cases hj
      · rw [List.getElem?_eq_none (by rw [List.length_set]; omega)] at hj; cases hj
    · rw [List.getElem?_set_ne z] at hj
      exact e.apart i j ds es z h hj (a.trans hs.symm)
  have e2 := e1.set (i := i) (v := .ref l) (d := .list ds) (.lst upd_same (r.same (upd_same_of ml)))
  rw [eσ] at e2
  rw [List.set_set] at e2
  exact e2

/-! ### targets -/
def Off (is : List Nat) (σ σ' : L2.St) : Prop := σ'.length = σ.length ∧ ∀ j, j ∉ is → σ'[j]? = σ[j]?
theorem Off.refl {is : List Nat} : Off is σ σ := ⟨rfl, fun _ _ => rfl⟩
theorem Off.trans {is js : List Nat} {σ2 : L2.St} (a : Off is σ σ') (b : Off js σ' σ2) : Off (is ++ js) σ σ2 :=
  ⟨b.1.trans a.1, fun j hj => by rw [List.mem_append, not_or] at hj; exact (b.2 j hj.2).trans (a.2 j hj.1)⟩
def OffE (is : List Nat) (ρ ρ' : Env B) : Prop := ρ'.length = ρ.length ∧ ∀ j, j ∉ is → ρ'[j]? = ρ[j]?
theorem OffE.trans {is js : List Nat} {ρ2 : Env B} (a : OffE is ρ ρ') (b : OffE js ρ' ρ2) : OffE (is ++ js) ρ ρ2 :=
  ⟨b.1.trans a.1, fun j hj => by rw [List.mem_append, not_or] at hj; exact (b.2 j hj.2).trans (a.2 j hj.1)⟩
abbrev ETg (B : ObjB) := D → Env B → R (Env B)
def gD (K : PySem.W.Frag) (is : List Nat) (t : ETg B) : TG := fun v σ H Q => ∃ I M ρ d ρ', EnvR K I M H σ ρ ∧ Rep K M v d ∧ t d ρ = .ok ρ' ∧ ∀ σ', EnvR K I M H σ' ρ' → Off is σ σ' → Q σ' H
def gsD (K : PySem.W.Frag) (is : List Nat) (t : List D → Env B → R (Env B)) : TGs := fun vs σ H Q => ∃ I M ρ ds ρ', EnvR K I M H σ ρ ∧ Reps K M vs ds ∧ t ds ρ = .ok ρ' ∧ ∀ σ', EnvR K I M H σ' ρ' → Off is σ σ' → Q σ' H
structure DG (X : Cx) (tgt : Expr) (is : List Nat) (t : ETg B) : Prop where
  pg : PG X tgt (gD X.K is t)
  off : ∀ d ρ ρ', t d ρ = .ok ρ' → OffE is ρ ρ'
structure DGs (X : Cx) (ts : List Expr) (is : List Nat) (t : List D → Env B → R (Env B)) : Prop where
  pg : PGs X ts (gsD X.K is t)
  off : ∀ d ρ ρ', t d ρ = .ok ρ' → OffE is ρ ρ'
theorem PG.imp {X : Cx} {e : Expr} {t u : TG} (h : PG X e t) (k : ∀ v σ H Q, u v σ H Q → t v σ H Q) : PG X e u := ⟨fun pins s σ H v w Q I r q => h.run pins s σ H v w Q I r (k v σ H Q q)⟩
theorem PGs.imp {X : Cx} {e : List Expr} {t u : TGs} (h : PGs X e t) (k : ∀ v σ H Q, u v σ H Q → t v σ H Q) : PGs X e u := ⟨fun pins s σ H v w Q I r q => h.run pins s σ H v w Q I r (k v σ H Q q)⟩
variable {X : Cx} {pos : Pos}
def gN (i : Nat) : ETg B := fun d ρ => .ok (ρ.set i (.val d))
theorem dg_name {i : Nat} {x : Str} (hN : X.N.Nodup) (hi : X.N[i]? = some x) (hx : Loc X.env.scope x) (hf : X.fn x = true ∨ X.env.scope.names.lookup x = some .local := by first | exact .inl rfl | exact .inr rfl | assumption) : DG X (.Name x pos) [i] (gN (B := B) i) := by
  refine ⟨PG.imp (pg_name hN hi hx hf) fun v σ H Q ⟨I, M, ρ, d, ρ', e, r, h, q⟩ => ?_, fun d ρ ρ' h => ?_⟩
  · cases h
    exact q _ (e.set r) ⟨List.length_set, fun j hj => List.getElem?_set_ne (fun z => hj (by simp [z]))⟩
  · cases h
    exact ⟨List.length_set, fun j hj => List.getElem?_set_ne (fun z => hj (by simp [z]))⟩
def gsN : List D → Env B → R (Env B) := fun ds ρ => match ds with
  | [] => .ok ρ
  | _ :: _ => .stuck
def gsC (t : ETg B) (u : List D → Env B → R (Env B)) : List D → Env B → R (Env B) := fun ds ρ => match ds with
  | [] => .stuck
  | d :: r => (t d ρ).bind fun ρ1 => u r ρ1
theorem dgs_nil : DGs X [] [] (gsN (B := B)) := by
  refine ⟨PGs.imp pgs_nil fun v σ H Q ⟨I, M, ρ, ds, ρ', e, r, h, q⟩ => ?_, fun d ρ ρ' h => ?_⟩
  · cases r with
    | nil => cases h; exact ⟨rfl, q _ e .refl⟩
    | cons _ _ => cases h
  · cases d with
    | nil => cases h; exact ⟨rfl, fun _ _ => rfl⟩
    | cons _ _ => cases h
theorem R.bind_eq {α β : Type} {r : R α} {k : α → R β} {b : β} (h : r.bind k = .ok b) : ∃ a, r = .ok a ∧ k a = .ok b := by
  cases r with
  | ok a => exact ⟨a, rfl, h⟩
  | exc n => cases h
  | stuck => cases h
theorem dgs_cons {e : Expr} {es : List Expr} {is js : List Nat} {t : ETg B} {u : List D → Env B → R (Env B)} (h : DG X e is t) (h' : DGs X es js u)
    (hs : (assignEach (e :: es) X.env).map (·.2) = assign e X.env :: (assignEach es X.env).map (·.2) := by rfl) : DGs X (e :: es) (is ++ js) (gsC t u) := by
  refine ⟨PGs.imp (pgs_cons h.pg h'.pg hs) fun vs σ H Q ⟨I, M, ρ, ds, ρ', e, r, hh, q⟩ => ?_, fun d ρ ρ' hh => ?_⟩
  · cases r with
    | nil => cases hh
    | cons r1 r2 =>
      obtain ⟨ρ1, a1, a2⟩ := R.bind_eq hh
      exact ⟨_, _, rfl, I, M, ρ, _, ρ1, e, r1, a1, fun σ1 e1 o1 => ⟨I, M, ρ1, _, ρ', e1, r2, a2, fun σ2 e2 o2 => q σ2 e2 (o1.trans o2)⟩⟩
  · cases d with
    | nil => cases hh
    | cons d ds =>
      obtain ⟨ρ1, a1, a2⟩ := R.bind_eq hh
      exact (h.off _ _ _ a1).trans (h'.off _ _ _ a2)
def gT (n : Nat) (u : List D → Env B → R (Env B)) : ETg B := fun d ρ => match d with
  | .tuple ds => if ds.length = n then u ds ρ else .stuck
  | _ => .stuck
theorem dg_tup {es : List Expr} {j : Nat} {is : List Nat} {u : List D → Env B → R (Env B)} {n : Nat} (hc : X.calm = true) (h : DGs X es is u)
    (hn : (assignEach es X.env).length = n := by rfl) (hst : (assignEach es X.env).findIdx? (·.1) = none := by rfl) : DG X (.Tuple es j pos) is (gT n u) := by
  refine ⟨PG.imp (pg_tup hc h.pg hn hst) fun v σ H Q ⟨I, M, ρ, d, ρ', e, r, hh, q⟩ => ?_, fun d ρ ρ' hh => ?_⟩
  · unfold gT at hh
    split at hh
    · split at hh
      · rename_i hl
        cases r with
        | tup ht rr => exact ⟨_, _, rfl, sqT_same e.mok.same ht, by rw [rr.length]; exact hl, I, M, ρ, _, ρ', e, rr, hh, q⟩
      · cases hh
    · cases hh
  · unfold gT at hh
    split at hh
    · split at hh
      · exact h.off _ _ _ hh
      · cases hh
    · cases hh

/-! ### what is walked -/
structure WalkJ (K : PySem.W.Frag) (M1 : Hp) (J : It) (items : List D) : Prop where
  go : ∀ (i : Nat) H M d, MOk M H → Same M1 M → items[i]? = some d → J.go i H ∧ ∀ x H', J.yld i H x H' → ∃ M', Grow M H M' H' ∧ Rep K M' x d
  stop : ∀ H M, MOk M H → Same M1 M → J.stop items.length H
def iD (c : Ctx B) (fi : Env B → R (List D)) : TI := fun σ H Rr => ∃ I M ρ, EnvR c.K I M H σ ρ ∧ RD c I (fi ρ) fun items => ∀ J H1 M1, Step I.b M H M1 H1 → EnvR c.K I M1 H1 σ ρ → WalkJ c.K M1 J items → Rr J H1
structure DI (X : Cx) (c : Ctx B) (tg iter : Expr) (fi : Env B → R (List D)) : Prop where
  pi : PI X tg iter (iD c fi)
theorem PI.imp {tg iter : Expr} {t u : TI} (h : PI X tg iter t) (k : ∀ σ H Q, u σ H Q → t σ H Q) : PI X tg iter u := ⟨fun pins s σ H R I q => h.run pins s σ H R I (k σ H R q)⟩
variable {c : Ctx B} {tg e : Expr} {f : Env B → R D}
def iAny (K : PySem.W.Frag) (tl : TE) : TI := fun σ H R => tl σ H fun x H1 => ∃ a, x = .ref a ∧ ((∃ xs, SqL K H1 a xs ∧ R (Itl K a) H1) ∨ ∃ xs, SqT K H1 a xs ∧ R (Itt K a) H1)
theorem pi_any {l : Expr} {tl : TE} (hl : PE X l tl) : PI X tg l (iAny X.K tl) := by
  refine ⟨fun pins s σ H R I h => ?_⟩
  refine thn (hl.run pins s σ H _ I h) fun v s1 ⟨x, H1, I1, r1, q1⟩ => ?_
  obtain ⟨a, e, q⟩ := q1
  subst e
  cases r1
  rcases q with ⟨xs, hq, q⟩ | ⟨xs, hq, q⟩
  · obtain ⟨its, rv, p, hz⟩ := I1.list hq
    refine wpAny_pyIter_list p.isList ?_
    refine ⟨s1.heap.objs.size, [s1.heap.objs.size], _, _, H1, rfl, I1.kept (t' := s1.toks) fun b o e => Heap.get?_push_of_some _ e, turn_list a _, ⟨_, Heap.get?_push_size _ rfl, rfl, rfl⟩, fun b hb => ?_, q⟩
    have e : b = s1.heap.objs.size := by simpa using hb
    subst e
    exact I1.fpOk (Nat.le_refl _) (I1.hok.fresh (Nat.le_refl _))
  · obtain ⟨its, rv, p, hz⟩ := I1.tuple hq
    refine wpAny_pyIter_tuple (show s1.heap.IsTuple a its.toArray from p) ?_
    refine ⟨s1.heap.objs.size, [s1.heap.objs.size], _, _, H1, rfl, I1.kept (t' := s1.toks) fun b o e => Heap.get?_push_of_some _ e, turn_tuple a _, ⟨_, Heap.get?_push_size _ rfl, rfl, rfl⟩, fun b hb => ?_, q⟩
    have e : b = s1.heap.objs.size := by simpa using hb
    subst e
    exact I1.fpOk (Nat.le_refl _) (I1.hok.fresh (Nat.le_refl _))
theorem sqL_inj {K : PySem.W.Frag} {H : Hp} {a : Addr} {xs ys : List V} (h : H a = some (.lst xs)) (hn : K.lookup a = none) (q : SqL K H a ys) : ys = xs := by
  rcases q with (q | ⟨o, q⟩) | ⟨o, its, n, q, _⟩
  · rw [h] at q; cases q; rfl
  · rw [h] at q; cases q
  · rw [hn] at q; cases q
/-- a walk over what holds these items -/
theorem walk_seq {p : Addr} {vs : List V} {items : List D} {M1 : Hp} (hs : SqL K M1 p vs) (r : Reps K M1 vs items) : WalkJ K M1 (Itl K p) items where
  go := fun i H M d k s e => by
    obtain ⟨v, hv, rv⟩ := r.get e
    have hH := k.same.seq (s.seq hs)
    refine ⟨⟨vs, v, hH, hv⟩, fun x H' y => ?_⟩
    obtain ⟨e1, y⟩ := y
    subst e1
    have hx := y vs hH
    rw [hv] at hx
    cases hx
    exact ⟨M, .refl k, rv.same s⟩
  stop := fun H M k s => ⟨vs, k.same.seq (s.seq hs), by rw [r.length]; exact Nat.le_refl _⟩
theorem walk_tup {p : Addr} {vs : List V} {items : List D} {M1 : Hp} (hs : SqT K M1 p vs) (r : Reps K M1 vs items) : WalkJ K M1 (Itt K p) items where
  go := fun i H M d k s e => by
    obtain ⟨v, hv, rv⟩ := r.get e
    have hH := sqT_same k.same (sqT_same s hs)
    refine ⟨⟨vs, v, hH, hv⟩, fun x H' y => ?_⟩
    obtain ⟨e1, y⟩ := y
    subst e1
    have hx := y vs hH
    rw [hv] at hx
    cases hx
    exact ⟨M, .refl k, rv.same s⟩
  stop := fun H M k s => ⟨vs, sqT_same k.same (sqT_same s hs), by rw [r.length]; exact Nat.le_refl _⟩
theorem Rep.itemsM {M : Hp} {v : V} {x : D} {xs : List D} (r : Rep K M v x) (e : itemsOf x = some xs) : ∃ p vs, v = .ref p ∧ (SqL K M p vs ∨ SqT K M p vs) ∧ Reps K M vs xs := by
  unfold itemsOf at e
  split at e
  · cases e
    cases r with
    | lst h q => exact ⟨_, _, rfl, .inl (SqL.of h), q⟩
  · cases e
    cases r with
    | tup h q => exact ⟨_, _, rfl, .inr h, q⟩
  · cases e
    cases r with
    | scr h q => exact ⟨_, _, rfl, .inl h, q⟩
  · cases e
def toItems (x : D) : R (List D) := match itemsOf x with
  | some xs => .ok xs
  | none => .stuck
theorem toItems_rd {I : Ent} {x : D} {P : List D → Prop} (h : RD c I (toItems x) P) : ∃ xs, itemsOf x = some xs ∧ P xs := by
  unfold toItems at h
  split at h
  · exact ⟨_, by assumption, h⟩
  · exact h.elim
def iSeq (f : Env B → R D) : Env B → R (List D) := fun ρ => (f ρ).bind toItems
theorem di_seq (K : c.K = X.K) (h : DE X c e f) : DI X c tg e (iSeq f) := by
  refine ⟨PI.imp (pi_any h.pe) fun σ H Q ⟨I, M, ρ, e, q⟩ => ?_⟩
  refine ⟨I, M, ρ, e, q.bind.mono fun x hx v H1 M1 k1 e1 r1 => ?_⟩
  obtain ⟨xs, hxs, hp⟩ := toItems_rd hx
  obtain ⟨p, vs, rfl, hs, r⟩ := r1.itemsM hxs
  rw [← K]
  rcases hs with hs | hs
  · exact ⟨p, rfl, .inl ⟨vs, e1.mok.same.seq hs, hp _ _ _ k1 e1 (walk_seq hs r)⟩⟩
  · exact ⟨p, rfl, .inr ⟨vs, sqT_same e1.mok.same hs, hp _ _ _ k1 e1 (walk_tup hs r)⟩⟩
/-- range(n), range(a, b) -/
def rangeD (a b : Int) : List D := (List.range (b - a).toNat).map fun i : Nat => PyData.int (a + i)
def iRng1 (f : Env B → R (List D)) : Env B → R (List D) := fun ρ => (f ρ).bind fun xs => match xs with
  | [.int j] => if -100000 ≤ j ∧ j ≤ 100000 then .ok (rangeD 0 j) else .stuck
  | _ => .stuck
def iRng2 (f : Env B → R (List D)) : Env B → R (List D) := fun ρ => (f ρ).bind fun xs => match xs with
  | [.int i, .int j] => if -100000 ≤ i ∧ i ≤ 100000 ∧ -100000 ≤ j ∧ j ≤ 100000 then .ok (rangeD i j) else .stuck
  | _ => .stuck
theorem walk_range {a b : Int} {M1 : Hp} : WalkJ K M1 (Itr a (b - a).toNat) (rangeD a b) where
  go := fun i H M d k s e => by
    unfold rangeD at e
    rw [List.getElem?_map] at e
    have hi : i < (b - a).toNat := by
      by_cases h : i < (b - a).toNat
      · exact h
      · rw [List.getElem?_eq_none (by simpa using h)] at e; cases e
    rw [List.getElem?_range hi] at e
    cases e
    refine ⟨hi, fun x H' y => ?_⟩
    obtain ⟨e1, e2⟩ := y
    subst e1; subst e2
    exact ⟨M, .refl k, .int _⟩
  stop := fun H M k s => by
    show (b - a).toNat ≤ (rangeD a b).length
    unfold rangeD
    simp
theorem di_range1 {a : Expr} {fa : Env B → R (List D)} {p : Pos} (hm : X.mg "range" = none) (ha : DA X c [a] fa) (hg : Gl X "range" := by rfl) (hs : starEach [a] X.env = [(false, eval a X.env)] := by rfl) : DI X c tg (.Call (.Name "range" p) [a] [] pos) (iRng1 fa) := by
  refine ⟨PI.imp (pi_range1 hg hm ha.pa hs) fun σ H Q ⟨I, M, ρ, e, q⟩ => ?_⟩
  refine ⟨I, M, ρ, e, RD.mono q.bind fun x hx v H1 M1 k1 e1 r1 => ?_⟩
  split at hx
  · rename_i j
    split at hx
    · rename_i hb
      cases r1 with
      | cons r1 r2 =>
        cases r2; cases r1
        refine ⟨j, rfl, by omega, by omega, ?_⟩
        have w := walk_range (K := c.K) (a := 0) (b := j) (M1 := M1)
        rw [Int.sub_zero] at w
        exact hx _ _ _ k1 e1 w
    · exact hx.elim
  · exact hx.elim
theorem di_range2 {a b : Expr} {fa : Env B → R (List D)} {p : Pos} (hm : X.mg "range" = none) (ha : DA X c [a, b] fa) (hg : Gl X "range" := by rfl) (hs : starEach [a, b] X.env = [(false, eval a X.env), (false, eval b X.env)] := by rfl) (hs2 : starEach [b] X.env = [(false, eval b X.env)] := by rfl) :
    DI X c tg (.Call (.Name "range" p) [a, b] [] pos) (iRng2 fa) := by
  refine ⟨PI.imp (pi_range2 hg hm ha.pa hs hs2) fun σ H Q ⟨I, M, ρ, e, q⟩ => ?_⟩
  refine ⟨I, M, ρ, e, RD.mono q.bind fun x hx v H1 M1 k1 e1 r1 => ?_⟩
  split at hx
  · rename_i i j
    split at hx
    · rename_i hb
      cases r1 with
      | cons r1 r2 =>
        cases r2 with
        | cons r2 r3 =>
          cases r3; cases r1; cases r2
          exact ⟨i, j, rfl, ⟨by omega, by omega, by omega, by omega⟩, hx _ _ _ k1 e1 walk_range⟩
    · exact hx.elim
  · exact hx.elim
end
end PL

set_option Elab.async false
set_option linter.all false
set_option maxRecDepth 100000
set_option maxHeartbeats 4000000
/-! zip, enumerate, reversed, over lists and tuples in any mix -/
namespace PL
open PySem PySem.Spec PyProof.Rows L2
/-! ### a list or a tuple -/
def SqA (K : PySem.W.Frag) (t : Bool) (H : Hp) (a : Addr) (xs : List V) : Prop := match t with
  | false => SqL K H a xs
  | true => SqT K H a xs
def ItA (t : Bool) (h : Heap) (it a : Addr) (i : Nat) : Prop := match t with
  | false => h.IsListIter it a i
  | true => h.IsTupleIter it a i
def IsA (t : Bool) (h : Heap) (a : Addr) (items : Array Value) : Prop := match t with
  | false => h.IsList a items
  | true => h.IsTuple a items
theorem draws_sel {prog : Program} {w : World} {A : Around} (t : Bool) (hh : A.handled = none) (it a : Addr) (hne : a ≠ it) (items : Array Value) :
    Draws prog w A it [it, a] items.size (fun i v => items[i]? = some v) (fun i h => ItA t h it a i ∧ IsA t h a items) := by
  cases t
  · exact Draws.list hh it a hne items
  · exact Draws.tuple hh it a hne items
theorem ItA.obj {t : Bool} {h : Heap} {it a : Addr} {i : Nat} (x : ItA t h it a i) : ∃ o, h.get? it = some o ∧ ∀ v, o.data ≠ .cell v := by
  cases t
  · obtain ⟨o, e, _, d⟩ := x
    exact ⟨o, e, fun v q => by rw [d] at q; cases q⟩
  · obtain ⟨o, e, _, d⟩ := x
    exact ⟨o, e, fun v q => by rw [d] at q; cases q⟩
theorem ItA.at {t : Bool} {h h' : Heap} {it a : Addr} {i : Nat} (x : ItA t h it a i) (k : ∀ o, h.get? it = some o → h'.get? it = some o) : ItA t h' it a i := by
  cases t
  · exact Heap.IsListIter.at x k
  · obtain ⟨o, e, r⟩ := x
    exact ⟨o, k o e, r⟩
section
variable {X : Cx} {pins : List (Addr × Obj)} {σ : L2.St} {H : Hp} {s : Shared} {a : Addr} {xs ys : List V} {t : Bool}
theorem inv_sq (I : Inv X pins σ H s) (h : SqA X.K t H a xs) : ∃ its : List Value, Vals xs its ∧ IsA t s.heap a its.toArray ∧ xs.length ≤ sizeLine ∧ a < s.heap.objs.size := by
  cases t
  · obtain ⟨its, r, p, z⟩ := I.list h
    exact ⟨its, r, p.isList, z, p.lt⟩
  · obtain ⟨its, r, p, z⟩ := I.tuple h
    exact ⟨its, r, p, z, p.lt⟩
theorem inv_inj (I : Inv X pins σ H s) (h : SqA X.K t H a xs) (h' : SqA X.K t H a ys) : xs = ys := by
  cases t
  · exact I.list_inj h h'
  · exact I.tuple_inj h h'
end
/-! ### zip -/
def ItzA (K : PySem.W.Frag) (t1 t2 : Bool) (a b : Addr) : It :=
  ⟨fun i H => ∃ (xs ys : List V) (x y : V), SqA K t1 H a xs ∧ SqA K t2 H b ys ∧ xs[i]? = some x ∧ ys[i]? = some y,
    fun i H v H' => ∃ T x y, v = .ref T ∧ H T = none ∧ H' = upd H T (.tup [x, y]) ∧ (∀ xs, SqA K t1 H a xs → xs[i]? = some x) ∧ ∀ ys, SqA K t2 H b ys → ys[i]? = some y,
    fun i H => ∃ xs ys : List V, SqA K t1 H a xs ∧ SqA K t2 H b ys ∧ i ≤ xs.length ∧ i ≤ ys.length ∧ (i = xs.length ∨ i = ys.length)⟩
theorem turn_zipA {P : Program} {w : World} {K : PySem.W.Frag} {elts : List Expr} {kk : Nat} {tpos : Pos} {a b z TI TO i1 i2 : Addr} (t1 t2 : Bool) (D : ZipSep2 z TI TO i1 i2 [i1, a] [i2, b]) (na : a ≠ i1) (nb : b ≠ i2) :
    Turn P w K (.Tuple elts kk tpos) (ItzA K t1 t2 a b) [z, TI, TO, i1, i2] z (fun i h => IsZip h z TI TO .none ∧ IsTupOf2 h TI (.ref i1) (.ref i2) ∧ (∃ x y, IsTupOf2 h TO x y) ∧ ItA t1 h i1 a i ∧ ItA t2 h i2 b i) where
  mem := by simp
  obj := fun i h st c hc => by
    obtain ⟨hz, hTI, ⟨x, y, hTO⟩, h1, h2⟩ := st
    have e' : c = z ∨ c = TI ∨ c = TO ∨ c = i1 ∨ c = i2 := by simpa using hc
    rcases e' with q | q | q | q | q
    · rw [q]; exact ⟨_, hz, fun v q => nomatch q⟩
    · rw [q]; exact ⟨_, hTI, fun v q => nomatch q⟩
    · rw [q]; exact ⟨_, hTO, fun v q => nomatch q⟩
    · rw [q]; exact h1.obj
    · rw [q]; exact h2.obj
  keep := fun i h h' st k => by
    obtain ⟨hz, hTI, ⟨x, y, hTO⟩, h1, h2⟩ := st
    exact ⟨k z (by simp) _ hz, k TI (by simp) _ hTI, ⟨x, y, k TO (by simp) _ hTO⟩, h1.at fun o q => k i1 (by simp) o q, h2.at fun o q => k i2 (by simp) o q⟩
  item := by
    intro X hP hw hK hc i pins s σ H E I hf st hg
    subst hP hw hK
    obtain ⟨hz, hTI, ⟨x0, y0, hTO⟩, h1, h2⟩ := st
    obtain ⟨xs, ys, x, y, hqx, hqy, hx, hy⟩ := hg
    obtain ⟨its, rv, p, _, la⟩ := inv_sq I hqx
    obtain ⟨its2, rv2, p2, _, lb⟩ := inv_sq I hqy
    obtain ⟨u, hu, ru⟩ := rv.get hx
    obtain ⟨u2, hu2, ru2⟩ := rv2.get hy
    have hzl : z < s.heap.objs.size := Heap.lt_size hz
    have lx : i < its.length := (List.getElem?_eq_some_iff.mp hu).1
    have ly : i < its2.length := (List.getElem?_eq_some_iff.mp hu2).1
    have hh : X.A.in1.handled = none := I.ok.hd hc
    refine wpAny_pyNext_zipD2_item D (draws_sel t1 hh i1 a na its.toArray) (draws_sel t2 hh i2 b nb its2.toArray) hz hTI hTO ⟨h1, p⟩ ⟨h2, p2⟩ (by simpa using lx) (by simpa using ly) fun x1 x2 h' tk e1 e2 z' TO' h1' h2' hT hsz hk => ?_
    have ex1 : x1 = u := by
      have q : its.toArray[i]? = some u := by simpa using hu
      rw [q] at e1
      exact (Option.some.inj e1).symm
    have ex2 : x2 = u2 := by
      have q : its2.toArray[i]? = some u2 := by simpa using hu2
      rw [q] at e2
      exact (Option.some.inj e2).symm
    subst ex1 ex2
    refine ⟨_, rfl, wpAny_letOwnedTupleGo_zip (s := { s with heap := h', toks := tk }) z' fun h'' z'' sb => ?_⟩
    have hT2 : h''.get? s.heap.objs.size = some { cls := .type "tuple", data := .seq #[x1, x2] } := (sb.2 _ (Nat.ne_of_gt hzl)).trans hT
    have new : ObjOk X.prog X.w (upd H s.heap.objs.size (.tup [x, y])) h'' s.heap.objs.size (.tup [x, y]) :=
      ⟨by show 2 ≤ sizeLine; decide, [x1, x2], .cons ru (.cons ru2 .nil), ⟨_, hT2, rfl, _, rfl⟩⟩
    have I1 : Inv X pins σ (upd H s.heap.objs.size (.tup [x, y])) { s with heap := h'', toks := tk } :=
      I.turnedNew (t' := tk) (ch := [z, TI, TO, i1, i2]) (fun c o hb q => (sb.2 c (fun q' => hb (by simp [q']))).trans (hk c o (fun q' => hb (by simp [q'])) (fun q' => hb (by simp [q'])) (fun q' => hb (by simp [q'])) (fun q' => hb (by simp [q'])) q)) hf (Nat.le_refl _) new
    refine ⟨.ref s.heap.objs.size, _, I1, rfl, ⟨_, x, y, rfl, I.hok.fresh (Nat.le_refl _), rfl, fun l hl => by rw [inv_inj I hl hqx]; exact hx, fun l hl => by rw [inv_inj I hl hqy]; exact hy⟩, ⟨z'', ?_, ⟨x1, x2, ?_⟩, ?_, ?_⟩, fun c hcm => ?_⟩
    · exact (sb.2 _ D.TIz).trans (hk _ _ D.TIz D.TITO D.TIi1 D.TIi2 hTI)
    · exact (sb.2 _ D.TOz).trans TO'
    · exact h1'.1.at fun o q => (sb.2 _ (Ne.symm D.zi1)).trans q
    · exact h2'.1.at fun o q => (sb.2 _ (Ne.symm D.zi2)).trans q
    · have hlt : c < s.heap.objs.size := by
        have e' : c = z ∨ c = TI ∨ c = TO ∨ c = i1 ∨ c = i2 := by simpa using hcm
        rcases e' with q | q | q | q | q
        · rw [q]; exact hzl
        · rw [q]; exact Heap.lt_size hTI
        · rw [q]; exact Heap.lt_size hTO
        · rw [q]; obtain ⟨_, e1, _⟩ := h1.obj; exact Heap.lt_size e1
        · rw [q]; obtain ⟨_, e2, _⟩ := h2.obj; exact Heap.lt_size e2
      rw [upd_ne (Nat.ne_of_lt hlt)]
      exact (hf c hcm).1
  done := by
    intro X hP hw hK hc i pins s σ H E I hf st hg
    subst hP hw hK
    obtain ⟨hz, hTI, ⟨x0, y0, hTO⟩, h1, h2⟩ := st
    obtain ⟨xs, ys, hqx, hqy, lx, ly, hend⟩ := hg
    obtain ⟨its, rv, p, _, la⟩ := inv_sq I hqx
    obtain ⟨its2, rv2, p2, _, lb⟩ := inv_sq I hqy
    have l1 := rv.length
    have l2 := rv2.length
    have hh : X.A.in1.handled = none := I.ok.hd hc
    refine wpAny_pyNext_zipD2_end D (draws_sel t1 hh i1 a na its.toArray) (draws_sel t2 hh i2 b nb its2.toArray) hz hTI hTO ⟨h1, p⟩ ⟨h2, p2⟩ (by simp; omega) (by simp; omega) (by simp; omega) fun h' tk hk => ?_
    exact ⟨rfl, I.turnedL (t' := tk) (ch := [z, TI, TO, i1, i2]) (fun c o hb q =>
      hk c o (fun q' => hb (by simp [q'])) (fun q' => hb (by simp [q'])) (fun q' => hb (by simp [q'])) (fun q' => hb (by simp [q'])) q) hf⟩
  self := fun A i s Q E st h => wpAny_pyIter_zip st.1 h
def beginsO (t : Bool) (a : Addr) : Obj := match t with
  | false => { cls := .type "list_iterator", data := .fields #[.ref a, .int 0 0] }
  | true => { cls := .type "tuple_iterator", data := .fields #[.ref a, .int 0 0] }
theorem begins_sel (t : Bool) (a : Addr) (items : Array Value) : Begins (.ref a) (beginsO t a) fun h => IsA t h a items := by
  cases t
  · exact begins_list a items
  · exact begins_tuple a items
theorem ItA.begin {t : Bool} {h : Heap} {it a : Addr} (e : h.get? it = some (beginsO t a)) : ItA t h it a 0 := by
  cases t
  · exact ⟨_, e, rfl, rfl⟩
  · exact ⟨_, e, rfl, rfl⟩
def iZipX (K : PySem.W.Frag) (ta : TA) : TI := fun σ H R => ta σ H fun vs H1 => ∃ t1 t2 a b xs ys, vs = [.ref a, .ref b] ∧ SqA K t1 H1 a xs ∧ SqA K t2 H1 b ys ∧ R (ItzA K t1 t2 a b) H1
theorem pi_zipX {X : Cx} {e e2 : Expr} {ta : TA} {p pos tpos : Pos} {elts : List Expr} {kk : Nat} (hg : Gl X "zip") (hm : X.mg "zip" = none) (ha : PA X [e, e2] ta)
    (hs : starEach [e, e2] X.env = (false, eval e X.env) :: starEach [e2] X.env := by rfl) (hpl : (backTo pos (starEach [e2] X.env)).any (·.1) = false := by rfl) :
    PI X (.Tuple elts kk tpos) (.Call (.Name "zip" p) [e, e2] [] pos) (iZipX X.K ta) := by
  refine ⟨fun pins s σ H R I h => ?_⟩
  refine Call_ (ld_blt I hg hm PyProof.Rows.boot_zip (PyProof.Rows.callWith_type1 (thn (ha.run pos pins s σ H _ I h) fun us s1 ⟨vs, H1, I1, r1, q1⟩ => ?_) hs hpl))
  obtain ⟨t1, t2, a, b, xs, ys, ex, hqx, hqy, q⟩ := q1
  subst ex
  cases r1 with
  | cons r rr =>
    cases rr with
    | cons r' rr =>
      cases rr
      cases r
      cases r'
      obtain ⟨its, rv, p1, _, la⟩ := inv_sq I1 hqx
      obtain ⟨its2, rv2, p2, _, lb⟩ := inv_sq I1 hqy
      refine zip_begins2 (begins_sel t1 a its.toArray) (begins_sel t2 b its2.toArray) p1 p2 fun h' hz hTI hTO h1 h2 hsz hk => wpAny_pyIter_zip hz ?_
      have I2 : Inv X pins σ H1 { s1 with heap := h' } := I1.kept (t' := s1.toks) hk
      have S := zip_sep2 (N := s1.heap.objs.size) (fp1 := [a]) (fp2 := [b]) (by simpa using la) (by simpa using lb)
      refine ⟨s1.heap.objs.size + 4, [s1.heap.objs.size + 4, s1.heap.objs.size + 2, s1.heap.objs.size + 3, s1.heap.objs.size, s1.heap.objs.size + 1], _, _, H1, rfl, I2, turn_zipA t1 t2 S (Nat.ne_of_lt la) (Nat.ne_of_lt (Nat.lt_succ_of_lt lb)), ⟨hz, hTI, ⟨_, _, hTO⟩, .begin h1, .begin h2⟩, fun c hcm => ?_, q⟩
      have e' : c = s1.heap.objs.size + 4 ∨ c = s1.heap.objs.size + 2 ∨ c = s1.heap.objs.size + 3 ∨ c = s1.heap.objs.size ∨ c = s1.heap.objs.size + 1 := by simpa using hcm
      have hle : s1.heap.objs.size ≤ c := by
        rcases e' with z | z | z | z | z
        · rw [z]; exact Nat.le_add_right _ _
        · rw [z]; exact Nat.le_add_right _ _
        · rw [z]; exact Nat.le_add_right _ _
        · rw [z]; exact Nat.le_refl _
        · rw [z]; exact Nat.le_add_right _ _
      exact I1.fpOk hle (I1.hok.fresh hle)
/-! ### enumerate -/
open AutoSeq1 (wpAny_loadPart') in
theorem meets_enumerate_newT (l : Addr) (items : Array Value) (o : Obj) :
    Meets (Builtin.«enumerate.__new__» ⟨[.type "enumerate", .ref l], []⟩) (fun _ R s => (s.heap.get? l = some o ∧ s.heap.IsTuple l items) ∧
      R (.ok (.ret (.ref (s.heap.push { cls := .type "tuple_iterator", data := .fields #[.ref l, .int 0 0] }).objs.size)))
        { s with heap := (s.heap.push { cls := .type "tuple_iterator", data := .fields #[.ref l, .int 0 0] }).push { cls := .type "enumerate", data := .fields #[.none, .bool false, .ref s.heap.objs.size, rawInt 0, .none, .none] } }) :=
  .of_wp fun prog w A R s h => by
    obtain ⟨hp, g, d, tk, os⟩ := s; obtain ⟨⟨hl, hL⟩, h⟩ := h
    have hsub := sub_enumerate
    wp_walk using wpAny_loadPart' hl
    refine wpAny_stack_any fun st => wpAny_pure ?_
    split
    · rename_i c _ _ _ _ _
      cases (c == Value.type "enumerate")
      · wp_walk using wpAny_loadPart' hl, wpAny_pyIter_tuple hL
        exact ⟨_, rfl, h⟩
      · wp_walk using wpAny_loadPart' hl, wpAny_pyIter_tuple hL
        exact ⟨_, rfl, h⟩
    · wp_walk using wpAny_loadPart' hl, wpAny_pyIter_tuple hL
      exact ⟨_, rfl, h⟩
theorem call_enumerate_tuple {prog : Program} {w : World} {A : Around} {E : Value → Shared → Prop} {s : Shared} {l : Addr} {items : Array Value} {Q : Value → Shared → Prop} (hL : s.heap.IsTuple l items)
    (h : ∀ h', IsEnum h' (s.heap.objs.size + 1) s.heap.objs.size 0 .none → h'.IsTupleIter s.heap.objs.size l 0 → h'.objs.size = s.heap.objs.size + 2 →
      (∀ b o, s.heap.get? b = some o → h'.get? b = some o) → Q (.ref (s.heap.objs.size + 1)) { s with heap := h' }) :
    wpAny (model prog w) A (call (.type "enumerate") [.ref l]) Q E s := by
  obtain ⟨o, hl, hr⟩ := id hL
  refine callType_new F.called_enumerate (by decide) (F.typeCall_enumerate_1 _) (F.newCall_enumerate_1 _) (fun obj => F.args_object_init_2 obj _) F.entry_enumerate_new
    (meets_enumerate_newT l items o) ⟨⟨hl, hL⟩, ?_⟩
  have hz : (s.heap.push { cls := .type "tuple_iterator", data := .fields #[.ref l, .int 0 0] }).objs.size = s.heap.objs.size + 1 := Heap.size_push ..
  show _ ∧ _
  rw [hz]
  have he : IsEnum ((s.heap.push { cls := .type "tuple_iterator", data := .fields #[.ref l, .int 0 0] }).push
      { cls := .type "enumerate", data := .fields #[.none, .bool false, .ref s.heap.objs.size, rawInt 0, .none, .none] }) (s.heap.objs.size + 1) s.heap.objs.size 0 .none := by
    have := Heap.get?_push_size (s.heap.push { cls := .type "tuple_iterator", data := .fields #[.ref l, .int 0 0] })
      (o := { cls := .type "enumerate", data := .fields #[.none, .bool false, .ref s.heap.objs.size, rawInt 0, .none, .none] }) rfl
    rw [hz] at this; exact this
  refine ⟨⟨_, he, rfl⟩, h _ he ⟨_, Heap.get?_push_of_some _ (Heap.get?_push_size _ rfl), rfl, rfl⟩ (by rw [Heap.size_push, hz]) fun b o x => Heap.get?_push_of_some _ (Heap.get?_push_of_some _ x)⟩
def IteA (K : PySem.W.Frag) (t : Bool) (a : Addr) : It :=
  ⟨fun i H => ∃ (xs : List V) (x : V), SqA K t H a xs ∧ xs[i]? = some x, fun i H v H' => ∃ T x, v = .ref T ∧ H T = none ∧ H' = upd H T (.tup [.int (i : Nat), x]) ∧ ∀ xs, SqA K t H a xs → xs[i]? = some x, fun i H => ∃ xs : List V, SqA K t H a xs ∧ xs.length = i⟩
theorem turn_enumA {P : Program} {w : World} {K : PySem.W.Frag} {elts : List Expr} {kk : Nat} {tpos : Pos} (t : Bool) (a e it : Addr) (na : a ≠ it) (nea : e ≠ a) :
    Turn P w K (.Tuple elts kk tpos) (IteA K t a) [e, it] e (fun i h => (∃ old, IsEnum h e it ((i : Nat) : Int) old) ∧ ItA t h it a i ∧ e ≠ it) where
  mem := by simp
  obj := fun i h st b hb => by
    obtain ⟨⟨old, he⟩, hi, _⟩ := st
    have e' : b = e ∨ b = it := by simpa using hb
    rcases e' with z | z
    · rw [z]; exact ⟨_, he, fun v q => nomatch q⟩
    · rw [z]; exact hi.obj
  keep := fun i h h' st k => let ⟨⟨old, he⟩, hi, hne⟩ := st; ⟨⟨old, k e (by simp) _ he⟩, hi.at fun o q => k it (by simp) o q, hne⟩
  item := by
    intro X hP hw hK hc i pins s σ H E I hf st hg
    subst hP hw hK
    obtain ⟨⟨old, he⟩, hit, hne⟩ := st
    obtain ⟨xs, x, hq, hx⟩ := hg
    obtain ⟨its, rv, p, hz, la⟩ := inv_sq I hq
    obtain ⟨u, hu, ru⟩ := rv.get hx
    have hel : e < s.heap.objs.size := Heap.lt_size he
    have hil : it < s.heap.objs.size := by obtain ⟨_, q, _⟩ := hit.obj; exact Heap.lt_size q
    have lx : i < its.length := (List.getElem?_eq_some_iff.mp hu).1
    have hh : X.A.in1.handled = none := I.ok.hd hc
    refine wpAny_pyNext_enum_itemD (draws_sel t hh it a na its.toArray) he ⟨hit, p⟩ (by simpa using lx) hne (by simp [hne, nea]) fun x1 h' tk e1 ho hit' hT hsz hk => ?_
    have ex1 : x1 = u := by
      have q : its.toArray[i]? = some u := by simpa using hu
      rw [q] at e1
      exact (Option.some.inj e1).symm
    subst ex1
    refine ⟨_, rfl, wpAny_letOwnedTupleGo_enum (s := { s with heap := h', toks := tk + 1 }) ho fun h'' he' sb => ?_⟩
    have hT2 : h''.get? s.heap.objs.size = some { cls := .type "tuple", data := .seq #[.int i tk, x1] } := (sb.2 _ (Nat.ne_of_gt hel)).trans hT
    have new : ObjOk X.prog X.w (upd H s.heap.objs.size (.tup [.int (i : Nat), x])) h'' s.heap.objs.size (.tup [.int (i : Nat), x]) :=
      ⟨by show 2 ≤ sizeLine; decide, [.int i tk, x1], .cons ⟨_, rfl⟩ (.cons ru .nil), ⟨_, hT2, rfl, _, rfl⟩⟩
    have I1 : Inv X pins σ (upd H s.heap.objs.size (.tup [.int (i : Nat), x])) { s with heap := h'', toks := tk + 1 } :=
      I.turnedNew (t' := tk + 1) (ch := [e, it]) (fun b ob hb q => (sb.2 b (fun z => hb (by simp [z]))).trans (hk b ob (fun z => hb (by simp [z])) (fun z => hb (by simp [z])) q)) hf (Nat.le_refl _) new
    refine ⟨.ref s.heap.objs.size, _, I1, rfl, ⟨_, x, rfl, I.hok.fresh (Nat.le_refl _), rfl, fun ys hy => by rw [inv_inj I hy hq]; exact hx⟩, ⟨⟨x1, ?_⟩, hit'.1.at fun o q => (sb.2 it (Ne.symm hne)).trans q, hne⟩, fun b hb => ?_⟩
    · have e1 : ((i + 1 : Nat) : Int) = (i : Int) + 1 := by omega
      rw [e1]; exact he'
    · have hb' : b < s.heap.objs.size := by
        have e' : b = e ∨ b = it := by simpa using hb
        rcases e' with z | z
        · rw [z]; exact hel
        · rw [z]; exact hil
      rw [upd_ne (Nat.ne_of_lt hb')]
      exact (hf b hb).1
  done := by
    intro X hP hw hK hc i pins s σ H E I hf st hg
    subst hP hw hK
    obtain ⟨⟨old, he⟩, hit, hne⟩ := st
    obtain ⟨xs, hq, hx⟩ := hg
    obtain ⟨its, rv, p, hz, la⟩ := inv_sq I hq
    obtain ⟨f0, f1, f2, f3, f4, f5⟩ := hf it (by simp)
    have hl := rv.length
    have hh : X.A.in1.handled = none := I.ok.hd hc
    have en : its.toArray.size = i := by simp; omega
    refine wpAny_pyNext_enum_endD (draws_sel t hh it a na its.toArray) he ⟨by rw [en]; exact hit, p⟩ fun h' eb => ?_
    exact ⟨rfl, I.turned (t' := s.toks) (fun b o hb q => eb b o hb q) f0 f1 f3 f4 f5⟩
  self := fun A i s Q E st h => let ⟨⟨_, he⟩, _⟩ := st; wpAny_pyIter_enum he h
def iEnumA (K : PySem.W.Frag) (ta : TA) : TI := fun σ H R => ta σ H fun vs H1 => ∃ t a xs, vs = [.ref a] ∧ SqA K t H1 a xs ∧ R (IteA K t a) H1
theorem pi_enumA {X : Cx} {e : Expr} {ta : TA} {p pos tpos : Pos} {elts : List Expr} {kk : Nat} (hg : Gl X "enumerate") (hm : X.mg "enumerate" = none) (ha : PA X [e] ta) (hs : starEach [e] X.env = [(false, eval e X.env)] := by rfl) :
    PI X (.Tuple elts kk tpos) (.Call (.Name "enumerate" p) [e] [] pos) (iEnumA X.K ta) := by
  refine ⟨fun pins s σ H R I h => ?_⟩
  refine Call_ (ld_blt I hg hm boot_enumerate (PyProof.Rows.callWith_type1 (thn (ha.run pos pins s σ H _ I h) fun us s1 ⟨vs, H1, I1, r1, q1⟩ => ?_) hs rfl))
  obtain ⟨t, a, xs, ex, hq, q⟩ := q1
  subst ex
  cases r1 with
  | cons r rr =>
    cases rr
    cases r
    obtain ⟨its, rv, p', hz, la⟩ := inv_sq I1 hq
    have go : ∀ h', IsEnum h' (s1.heap.objs.size + 1) s1.heap.objs.size 0 .none → ItA t h' s1.heap.objs.size a 0 → h'.objs.size = s1.heap.objs.size + 2 →
      (∀ b o, s1.heap.get? b = some o → h'.get? b = some o) → wpAny (model X.prog X.w) X.A (pyIter (.ref (s1.heap.objs.size + 1))) (PIE X pins σ (.Tuple elts kk tpos) R) X.xe { s1 with heap := h' } := fun h' he hit hsz hk => by
      refine wpAny_pyIter_enum he ?_
      have I2 : Inv X pins σ H1 { s1 with heap := h' } := I1.kept (t' := s1.toks) hk
      refine ⟨s1.heap.objs.size + 1, [s1.heap.objs.size + 1, s1.heap.objs.size], _, _, H1, rfl, I2, turn_enumA t a (s1.heap.objs.size + 1) s1.heap.objs.size (Nat.ne_of_lt la) (Nat.ne_of_gt (Nat.lt_succ_of_lt la)), ⟨⟨.none, he⟩, hit, Nat.succ_ne_self _⟩, fun b hb => ?_, q⟩
      have e' : b = s1.heap.objs.size + 1 ∨ b = s1.heap.objs.size := by simpa using hb
      have hle : s1.heap.objs.size ≤ b := by
        rcases e' with z | z
        · rw [z]; exact Nat.le_add_right _ _
        · rw [z]; exact Nat.le_refl _
      exact I1.fpOk hle (I1.hok.fresh hle)
    cases t
    · exact call_enumerate_list p' fun h' he hit hsz hk => go h' he hit hsz hk
    · exact call_enumerate_tuple p' fun h' he hit hsz hk => go h' he hit hsz hk

/-! ### over data -/
section
variable {B : ObjB} {X : Cx} {c : Ctx B} {pos : Pos} {K : PySem.W.Frag} {M : Hp}
theorem Rep.itemsS {v : V} {x : D} {xs : List D} (r : Rep K M v x) (e : itemsOf x = some xs) : ∃ t p vs, v = .ref p ∧ SqA K t M p vs ∧ Reps K M vs xs := by
  obtain ⟨p, vs, e, h | h, r⟩ := r.itemsM e
  · exact ⟨false, p, vs, e, h, r⟩
  · exact ⟨true, p, vs, e, h, r⟩
theorem sqA_same {t : Bool} {M M' : Hp} (s : Same M M') {a : Addr} {xs : List V} (h : SqA K t M a xs) : SqA K t M' a xs := by
  cases t
  · exact s.seq h
  · exact sqT_same s h
def zipD : List D → List D → List D
  | x :: xs, y :: ys => .tuple [x, y] :: zipD xs ys
  | _, _ => []
theorem zipD_get : ∀ (xs ys : List D) (i : Nat), (zipD xs ys)[i]? = (match xs[i]?, ys[i]? with
    | some x, some y => some (.tuple [x, y])
    | _, _ => none)
  | x :: xs, y :: ys, 0 => rfl
  | x :: xs, y :: ys, i + 1 => by simp only [zipD, List.getElem?_cons_succ]; exact zipD_get xs ys i
  | [], ys, i => by simp [zipD]
  | x :: xs, [], i => by
    simp only [zipD, List.getElem?_nil]
    cases (x :: xs)[i]? <;> rfl
theorem zipD_length : ∀ (xs ys : List D), (zipD xs ys).length = min xs.length ys.length
  | x :: xs, y :: ys => by simp only [zipD, List.length_cons, zipD_length xs ys]; omega
  | [], ys => by simp [zipD]
  | x :: xs, [] => by simp [zipD]
theorem walk_zip {t1 t2 : Bool} {a b : Addr} {vs ws : List V} {xs ys : List D} (h1 : SqA K t1 M a vs) (r1 : Reps K M vs xs) (h2 : SqA K t2 M b ws) (r2 : Reps K M ws ys) : WalkJ K M (ItzA K t1 t2 a b) (zipD xs ys) where
  go := fun i H M' d k s e => by
    rw [zipD_get] at e
    split at e
    · rename_i x y ex ey
      cases e
      obtain ⟨v, hv, rv⟩ := r1.get ex
      obtain ⟨w, hw, rw'⟩ := r2.get ey
      have g1 := sqA_same (s.trans k.same) h1
      have g2 := sqA_same (s.trans k.same) h2
      refine ⟨⟨vs, ws, v, w, g1, g2, hv, hw⟩, fun z H' q => ?_⟩
      obtain ⟨T, v', w', rfl, hT, rfl, q1, q2⟩ := q
      have e1 := q1 vs g1
      have e2 := q2 ws g2
      rw [hv] at e1; cases e1
      rw [hw] at e2; cases e2
      exact ⟨_, .alloc k hT rfl, .newT (k.free hT) (.cons (rv.same s) (.cons (rw'.same s) .nil))⟩
    · cases e
  stop := fun H M' k s => by
    refine ⟨vs, ws, sqA_same (s.trans k.same) h1, sqA_same (s.trans k.same) h2, ?_, ?_, ?_⟩
    · rw [zipD_length, r1.length]; omega
    · rw [zipD_length, r2.length]; omega
    · rw [zipD_length, r1.length, r2.length]; omega
def iZipD (f : Env B → R (List D)) : Env B → R (List D) := fun ρ => (f ρ).bind fun xs => match xs with
  | [x, y] => (toItems x).bind fun xs => (toItems y).bind fun ys => .ok (zipD xs ys)
  | _ => .stuck
theorem di_zip {e e2 : Expr} {fa : Env B → R (List D)} {p tpos : Pos} {elts : List Expr} {kk : Nat} (K : c.K = X.K) (hm : X.mg "zip" = none) (ha : DA X c [e, e2] fa) (hg : Gl X "zip" := by rfl)
    (hs : starEach [e, e2] X.env = (false, eval e X.env) :: starEach [e2] X.env := by rfl) (hpl : (backTo pos (starEach [e2] X.env)).any (·.1) = false := by rfl) :
    DI X c (.Tuple elts kk tpos) (.Call (.Name "zip" p) [e, e2] [] pos) (iZipD fa) := by
  refine ⟨PI.imp (pi_zipX hg hm ha.pa hs hpl) fun σ H Q ⟨I, M, ρ, e, q⟩ => ?_⟩
  refine ⟨I, M, ρ, e, RD.mono q.bind fun x hx v H1 M1 k1 e1 r1 => ?_⟩
  split at hx
  · obtain ⟨xs, hxs, hx⟩ := toItems_rd hx.bind
    obtain ⟨ys, hys, hx⟩ := toItems_rd hx.bind
    cases r1 with
    | cons r1 r2 =>
      cases r2 with
      | cons r2 r3 =>
        cases r3
        obtain ⟨t1, a, vs, rfl, s1, q1⟩ := r1.itemsS hxs
        obtain ⟨t2, b, ws, rfl, s2, q2⟩ := r2.itemsS hys
        rw [← K]
        exact ⟨t1, t2, a, b, vs, ws, rfl, sqA_same e1.mok.same s1, sqA_same e1.mok.same s2, hx _ _ _ k1 e1 (walk_zip s1 q1 s2 q2)⟩
  · exact hx.elim
def enumFrom : Nat → List D → List D
  | _, [] => []
  | n, x :: xs => .tuple [.int n, x] :: enumFrom (n + 1) xs
theorem enumFrom_get : ∀ (xs : List D) (n i : Nat), (enumFrom n xs)[i]? = (xs[i]?).map fun x => PyData.tuple [.int (n + i : Nat), x]
  | [], n, i => by simp [enumFrom]
  | x :: xs, n, 0 => rfl
  | x :: xs, n, i + 1 => by
    simp only [enumFrom, List.getElem?_cons_succ]
    rw [enumFrom_get xs (n + 1) i]
    rw [show n + 1 + i = n + (i + 1) by omega]
theorem enumFrom_length : ∀ (xs : List D) (n : Nat), (enumFrom n xs).length = xs.length
  | [], n => rfl
  | x :: xs, n => by simp [enumFrom, enumFrom_length xs]
theorem walk_enum {t : Bool} {a : Addr} {vs : List V} {xs : List D} (h1 : SqA K t M a vs) (r1 : Reps K M vs xs) : WalkJ K M (IteA K t a) (enumFrom 0 xs) where
  go := fun i H M' d k s e => by
    rw [enumFrom_get] at e
    simp only [Option.map_eq_some_iff] at e
    obtain ⟨x, ex, rfl⟩ := e
    obtain ⟨v, hv, rv⟩ := r1.get ex
    have g1 := sqA_same (s.trans k.same) h1
    refine ⟨⟨vs, v, g1, hv⟩, fun z H' q => ?_⟩
    obtain ⟨T, v', rfl, hT, rfl, q1⟩ := q
    have e1 := q1 vs g1
    rw [hv] at e1; cases e1
    rw [show 0 + i = i by omega]
    exact ⟨_, .alloc k hT rfl, .newT (k.free hT) (.cons (.int _) (.cons (rv.same s) .nil))⟩
  stop := fun H M' k s => ⟨vs, sqA_same (s.trans k.same) h1, by rw [enumFrom_length]; exact r1.length⟩
def iEnumD (f : Env B → R (List D)) : Env B → R (List D) := fun ρ => (f ρ).bind fun xs => match xs with
  | [x] => (toItems x).bind fun xs => .ok (enumFrom 0 xs)
  | _ => .stuck
theorem di_enum {e : Expr} {fa : Env B → R (List D)} {p tpos : Pos} {elts : List Expr} {kk : Nat} (K : c.K = X.K) (hm : X.mg "enumerate" = none) (ha : DA X c [e] fa) (hg : Gl X "enumerate" := by rfl) (hs : starEach [e] X.env = [(false, eval e X.env)] := by rfl) :
    DI X c (.Tuple elts kk tpos) (.Call (.Name "enumerate" p) [e] [] pos) (iEnumD fa) := by
  refine ⟨PI.imp (pi_enumA hg hm ha.pa hs) fun σ H Q ⟨I, M, ρ, e, q⟩ => ?_⟩
  refine ⟨I, M, ρ, e, RD.mono q.bind fun x hx v H1 M1 k1 e1 r1 => ?_⟩
  split at hx
  · obtain ⟨xs, hxs, hx⟩ := toItems_rd hx.bind
    cases r1 with
    | cons r1 r2 =>
      cases r2
      obtain ⟨t1, a, vs, rfl, s1, q1⟩ := r1.itemsS hxs
      rw [← K]
      exact ⟨t1, a, vs, rfl, sqA_same e1.mok.same s1, hx _ _ _ k1 e1 (walk_enum s1 q1)⟩
  · exact hx.elim
/-- reversed(list) -/
theorem walk_rev {a : Addr} {vs : List V} {xs : List D} (h1 : SqL K M a vs) (r1 : Reps K M vs xs) : WalkJ K M (Itv K a vs.length) xs.reverse where
  go := fun i H M' d k s e => by
    have hi : i < xs.length := by
      have := (List.getElem?_eq_some_iff.mp e).1
      simpa using this
    rw [List.getElem?_reverse hi] at e
    obtain ⟨v, hv, rv⟩ := r1.get e
    have g1 := (s.trans k.same).seq h1
    have hl := r1.length
    rw [← hl] at hv
    refine ⟨⟨by omega, vs, v, g1, hv⟩, fun z H' q => ?_⟩
    obtain ⟨rfl, q⟩ := q
    have e1 := q vs g1
    rw [hv] at e1; cases e1
    exact ⟨M', .refl k, rv.same s⟩
  stop := fun H M' k s => by
    show vs.length ≤ xs.reverse.length
    rw [List.length_reverse, r1.length]
    exact Nat.le_refl _
def iRevD (f : Env B → R (List D)) : Env B → R (List D) := fun ρ => (f ρ).bind fun xs => match xs with
  | [.list xs] => .ok xs.reverse
  | _ => .stuck
theorem di_rev {tg e : Expr} {fa : Env B → R (List D)} {p : Pos} (K : c.K = X.K) (hm : X.mg "reversed" = none) (ha : DA X c [e] fa) (hg : Gl X "reversed" := by rfl) (hs : starEach [e] X.env = [(false, eval e X.env)] := by rfl) :
    DI X c tg (.Call (.Name "reversed" p) [e] [] pos) (iRevD fa) := by
  refine ⟨PI.imp (pi_reversed hg hm ha.pa hs) fun σ H Q ⟨I, M, ρ, e, q⟩ => ?_⟩
  refine ⟨I, M, ρ, e, RD.mono q.bind fun x hx v H1 M1 k1 e1 r1 => ?_⟩
  split at hx
  · cases r1 with
    | cons r1 r2 =>
      cases r2
      cases r1 with
      | lst h r =>
        rw [← K]
        exact ⟨_, _, rfl, SqL.of (e1.mok.same _ _ h), hx _ _ _ k1 e1 (walk_rev (SqL.of h) r)⟩
  · exact hx.elim
end
end PL

set_option Elab.async false
set_option linter.all false
set_option maxRecDepth 100000
set_option maxHeartbeats 4000000
/-! comprehensions, fresh lists -/
namespace PL
open PySem PySem.Spec PyProof.Rows L2
section
variable {B : ObjB} {X : Cx} {c : Ctx B} {pos : Pos} {K : PySem.W.Frag} {I : Ent} {M H M' H' : Hp} {σ σ' : L2.St} {ρ ρ' : Env B}

/-! ### fresh lists -/
def PostL (c : Ctx B) (I : Ent) (M H : Hp) (σ : L2.St) (ρ : Env B) (Q : VK) (ds : List D) : Prop := ∀ l vs H' M', Step I.b M H M' H' → EnvR c.K I M' H' σ ρ → H' l = some (.lst vs) → M' l = none → H l = none → Reps c.K M' vs ds → Q (.ref l) H'
def tDL (c : Ctx B) (f : Env B → R (List D)) : TE := fun σ H Q => ∃ I M ρ, EnvR c.K I M H σ ρ ∧ RD c I (f ρ) (PostL c I M H σ ρ Q)
structure DL (X : Cx) (c : Ctx B) (e : Expr) (f : Env B → R (List D)) : Prop where
  pe : PE X e (tDL c f)
theorem EnvR.ownThere {K : PySem.W.Frag} (e : EnvR K I M H σ ρ) {j : Nat} {es : List D} (h : ρ[j]? = some (.own es)) {l : Addr} (n : H l = none) : σ[j]? ≠ some (some (.ref l)) := fun z => by
  obtain ⟨l', vs, a, hl, _⟩ := e.slots j _ h
  rw [a] at z
  cases z
  rw [n] at hl
  cases hl
def eL (f : Env B → R (List D)) : Env B → R D := fun ρ => (f ρ).bind fun ds => .ok (.list ds)
theorem de_l {e : Expr} {f : Env B → R (List D)} (h : DL X c e f) : DE X c e (eL f) := by
  refine ⟨PE.imp h.pe fun σ H Q ⟨I, M, ρ, e, q⟩ => ?_⟩
  refine ⟨I, M, ρ, e, q.bind.mono fun ds hx l vs H1 M1 k1 e1 hl ml nl r => ?_⟩
  have il : I.H l = none := e.ent.free nl
  have e2 := e1.adopt (o := .lst vs) hl rfl ml il fun j es hj => fun z => e.ownThere hj nl z
  refine hx _ H1 _ ⟨k1.k, k1.m.trans (upd_same_of ml), fun a o h n => ?_⟩ e2 (.newL ml r)
  by_cases z : a = l
  · subst z; exact nl
  · rw [upd_ne z] at h; exact k1.new a o h n
/-- a display, list(x), [x] * n, list(range(n)) -/
def lDisp (f : Env B → R (List D)) : Env B → R (List D) := fun ρ => (f ρ).bind fun xs => if xs.length ≤ 1000 then .ok xs else .stuck
theorem fresh_end {I : Ent} {M0 H0 M H : Hp} {σ : L2.St} {ρ : Env B} {Q : VK} {ds : List D} (h : PostL c I M0 H0 σ ρ Q ds) (k : Step I.b M0 H0 M H) (e : EnvR c.K I M H σ ρ) {vs : List V} (r : Reps c.K M vs ds) : ∀ p, H p = none → Q (.ref p) (upd H p (.lst vs)) := fun p hp => by
  have mp := e.mok.free hp
  have sm : Same H (upd H p (.lst vs)) := upd_same_of hp
  have e2 : EnvR c.K I M (upd H p (.lst vs)) σ ρ := by
    refine e.grow ⟨sm, Same.refl _, fun a o h => ?_, fun a o h n => by rw [h] at n; cases n⟩
    exact ⟨sm _ _ (e.mok a o h).1, (e.mok a o h).2⟩
  exact h p vs _ M (k.trans ⟨.of sm, Same.refl _, fun a o h n => by rw [h] at n; cases n⟩) e2 upd_same mp (k.k.free hp) r
theorem dl_lst {es : List Expr} {f : Env B → R (List D)} (h : DA X c es f) : DL X c (.List es pos) (lDisp f) := by
  refine ⟨PE.imp (pe_lst h.pa) fun σ H Q ⟨I, M, ρ, e, q⟩ => ?_⟩
  refine ⟨I, M, ρ, e, q.bind.mono fun x hx vs H1 M1 k1 e1 r1 => ?_⟩
  split at hx
  · rename_i hl
    exact ⟨by rw [r1.length]; exact le_line hl, fresh_end hx k1 e1 r1⟩
  · exact hx.elim
def lList (f : Env B → R (List D)) : Env B → R (List D) := fun ρ => (f ρ).bind fun xs => match xs with
  | [x] => toItems x
  | _ => .stuck
theorem dl_list {e : Expr} {es : List Expr} {f : Env B → R (List D)} {p : Pos} (K : c.K = X.K) (hm : X.mg "list" = none) (ha : DA X c (e :: es) f) (hg : Gl X "list" := by rfl) (he : starEach (e :: es) X.env = (false, eval e X.env) :: starEach es X.env := by rfl) (hpl : (backTo pos (starEach es X.env)).any (·.1) = false := by rfl) :
    DL X c (.Call (.Name "list" p) (e :: es) [] pos) (lList f) := by
  refine ⟨PE.imp (pe_callTy call_list_of hg hm boot_listT ha.pa (he := he) (hpl := hpl)) fun σ H Q ⟨I, M, ρ, e, q⟩ => ?_⟩
  refine ⟨I, M, ρ, e, q.bind.mono fun x hx v H1 M1 k1 e1 r1 => ?_⟩
  split at hx
  · obtain ⟨xs, hxs, hx⟩ := toItems_rd hx
    cases r1 with
    | cons r1 r2 =>
      cases r2
      obtain ⟨p, vs, rfl, hs, rr⟩ := r1.items e1.mok hxs
      rw [← K]
      exact ⟨_, _, rfl, hs, fresh_end hx k1 e1 rr⟩
  · exact hx.elim
def lRep (f g : Env B → R D) : Env B → R (List D) := fun ρ => (f ρ).bind fun x => (g ρ).bind fun y => match x, y with
  | .list xs, .int k => if 0 ≤ k ∧ k ≤ 1000 ∧ xs.length ≤ 100 then .ok (List.replicate k.toNat xs).flatten else .stuck
  | _, _ => .stuck
theorem dl_rep {a b : Expr} {f g : Env B → R D} (ha : DE X c a f) (hb : DE X c b g) : DL X c (.BinOp a .Mult b pos) (lRep f g) := by
  refine ⟨PE.imp (pe_op op_rep ha.pe hb.pe) fun σ H Q ⟨I, M, ρ, e, q⟩ => ?_⟩
  refine ⟨I, M, ρ, e, q.bind.mono fun x hx v H1 M1 k1 e1 r1 => ?_⟩
  refine ⟨I, M1, ρ, e1, hx.bind.mono fun y hy u H2 M2 k2 e2 r2 => ?_⟩
  split at hy
  · split at hy
    · rename_i hs
      obtain ⟨h1, h2, h3⟩ := hs
      cases r2
      cases r1.same k2.m with
      | lst h r =>
        refine ⟨_, _, _, rfl, rfl, e2.mok.same _ _ h, by omega, by omega, ?_, fresh_end hy (k1.trans k2) e2 (r.rep _)⟩
        rw [r.length]
        exact Nat.le_trans (Nat.mul_le_mul h3 (Int.toNat_le.mpr (by omega : _ ≤ ((1000 : Nat) : Int)))) (by decide)
    · exact hy.elim
  · exact hy.elim

/-! ### the environment of a block -/
def wipeE (ρ : Env B) : List Nat → Env B
  | [] => ρ
  | v :: vs => (wipeE ρ vs).set v .no
theorem wipeE_length : ∀ vs : List Nat, (wipeE ρ vs).length = ρ.length
  | [] => rfl
  | v :: vs => by unfold wipeE; rw [List.length_set, wipeE_length vs]
theorem EnvR.wipe (e : EnvR K I M H σ ρ) : ∀ vs : List Nat, EnvR K I M H (L2.wipe σ vs) (wipeE ρ vs)
  | [] => e
  | v :: vs => by unfold L2.wipe wipeE; exact (EnvR.wipe e vs).setNo
theorem wipeE_at (ρ : Env B) : ∀ (vs : List Nat) (j : Nat), (wipeE ρ vs)[j]? = if j ∈ vs then (if j < ρ.length then some .no else none) else ρ[j]?
  | [], j => by simp [wipeE]
  | v :: vs, j => by
    unfold wipeE
    by_cases hv : v = j
    · subst hv
      by_cases hl : v < ρ.length
      · rw [List.getElem?_set_self (by rw [wipeE_length]; exact hl)]
        simp [hl]
      · rw [List.getElem?_eq_none (by rw [List.length_set, wipeE_length]; omega)]
        simp [hl]
    · rw [List.getElem?_set_ne hv, wipeE_at ρ vs j]
      have e : (j ∈ v :: vs) ↔ j ∈ vs := by
        rw [List.mem_cons]
        exact ⟨fun h => h.resolve_left (fun z => hv z.symm), .inr⟩
      by_cases hj : j ∈ vs
      · rw [if_pos hj, if_pos (e.mpr hj)]
      · rw [if_neg hj, if_neg (fun z => hj (e.mp z))]
theorem wipe_at (σ : L2.St) : ∀ (vs : List Nat) (j : Nat), (L2.wipe σ vs)[j]? = if j ∈ vs then (if j < σ.length then some none else none) else σ[j]?
  | [], j => by simp [L2.wipe]
  | v :: vs, j => by
    unfold L2.wipe
    by_cases hv : v = j
    · subst hv
      by_cases hl : v < σ.length
      · rw [List.getElem?_set_self (by rw [L2.wipe_length]; exact hl)]
        simp [hl]
      · rw [List.getElem?_eq_none (by rw [List.length_set, L2.wipe_length]; omega)]
        simp [hl]
    · rw [List.getElem?_set_ne hv, wipe_at σ vs j]
      have e : (j ∈ v :: vs) ↔ j ∈ vs := by
        rw [List.mem_cons]
        exact ⟨fun h => h.resolve_left (fun z => hv z.symm), .inr⟩
      by_cases hj : j ∈ vs
      · rw [if_pos hj, if_pos (e.mpr hj)]
      · rw [if_neg hj, if_neg (fun z => hj (e.mp z))]
theorem wipeE_off {is vs : List Nat} (o : OffE is (wipeE ρ vs) ρ') (s : ∀ j ∈ is, j ∈ vs) : wipeE ρ' vs = wipeE ρ vs := by
  apply List.ext_getElem?
  intro j
  rw [wipeE_at, wipeE_at]
  have hl := o.1
  rw [wipeE_length] at hl
  by_cases hj : j ∈ vs
  · rw [if_pos hj, if_pos hj, hl]
  · rw [if_neg hj, if_neg hj, o.2 j (fun z => hj (s j z)), wipeE_at, if_neg hj]
theorem wipe_off {is vs : List Nat} (o : Off is (L2.wipe σ vs) σ') (s : ∀ j ∈ is, j ∈ vs) : L2.wipe σ' vs = L2.wipe σ vs := by
  apply List.ext_getElem?
  intro j
  rw [wipe_at, wipe_at]
  have hl := o.1
  rw [L2.wipe_length] at hl
  by_cases hj : j ∈ vs
  · rw [if_pos hj, if_pos hj, hl]
  · rw [if_neg hj, if_neg hj, o.2 j (fun z => hj (s j z)), wipe_at, if_neg hj]
/-- no list, no object of the names that the block takes -/
def plainAt (ρ : Env B) (j : Nat) : Bool := match ρ[j]? with
  | some (.own _) => false
  | some (.obj _) => false
  | _ => true
theorem EnvR.unwipe {vs : List Nat} (e : EnvR K I M H σ ρ) (e' : EnvR K I M' H' (L2.wipe σ vs) (wipeE ρ vs)) (s : Same M M') (cl : vs.all (plainAt ρ) = true) : EnvR K I M' H' σ ρ where
  len := e.len
  ent := e'.ent
  msub := e'.msub
  mok := e'.mok
  mnew := e'.mnew
  slots := fun j s' h => by
    by_cases hj : j ∈ vs
    · have c := List.all_eq_true.mp cl j hj
      unfold plainAt at c
      rw [h] at c
      have q := e.slots j _ h
      cases s' with
      | no => trivial
      | val d => obtain ⟨v, a, r⟩ := q; exact ⟨v, a, r.same s⟩
      | own _ => cases c
      | obj _ => cases c
    · have h1 : (wipeE ρ vs)[j]? = some s' := by rw [wipeE_at, if_neg hj]; exact h
      have q := e'.slots j s' h1
      rw [wipe_at, if_neg hj] at q
      exact q
  apart := e.apart

/-! ### each of some -/
def eachR {α β : Type} (step : α → R (List β)) : List α → R (List β)
  | [] => .ok []
  | d :: r => (step d).bind fun o => (eachR step r).bind fun ys => .ok (o ++ ys)
def lcStep (t : ETg B) (test : Env B → R Bool) (elt : Env B → R D) (ρ : Env B) (d : D) : R (List D) := (noE (t d ρ)).bind fun ρ1 => (noE (test ρ1)).bind fun b => if b = true then (noE (elt ρ1)).bind fun y => .ok [y] else .ok []
def lLc (fi : Env B → R (List D)) (t : ETg B) (test : Env B → R Bool) (elt : Env B → R D) (own : List Nat) : Env B → R (List D) := fun ρ => (fi ρ).bind fun items =>
  if items.length ≤ 100000 ∧ own.all (plainAt ρ) = true then noE (eachR (lcStep t test elt (wipeE ρ own)) items) else .stuck
def tYesD : Env B → R Bool := fun _ => .ok true
structure DTs (X : Cx) (c : Ctx B) (ifs : List Expr) (f : Env B → R Bool) : Prop where
  pts : PTs X ifs (tDT c f)
theorem PTs.imp {X : Cx} {e : List Expr} {t u : TT} (h : PTs X e t) (k : ∀ σ H Q, u σ H Q → t σ H Q) : PTs X e u := ⟨fun pins s σ H Q I q => h.run pins s σ H Q I (k σ H Q q)⟩
theorem dts_nil : DTs X c [] (tYesD : Env B → R Bool) := ⟨PTs.imp pts_nil fun σ H Q ⟨I, M, ρ, e, q⟩ => q H M .refl e⟩
theorem dts_one {e : Expr} {f : Env B → R Bool} (h : DT X c e f) : DTs X c [e] f := ⟨pts_one h.pt⟩
abbrev Ctx.quiet (c : Ctx B) : Ctx B := { c with E := fun _ _ _ => False }
theorem bind_noE {α β : Type} {r : R α} {k : α → R β} {b : β} (h : (noE r).bind k = .ok b) : ∃ a, r = .ok a ∧ k a = .ok b := by
  obtain ⟨a, h1, h2⟩ := R.bind_eq h
  exact ⟨a, noE_ok h1, h2⟩
theorem RD.of_ok {α : Type} {r : R α} {a : α} {P : α → Prop} {c : Ctx B} {I : Ent} (h : r = .ok a) (p : P a) : RD c I r P := by rw [h]; exact p
/-- what a comprehension's reading wants -/
theorem imp_lc {X : Cx} {c : Ctx B} {elt tg : Expr} {own : List Nat} {is : List Nat} {fi : Env B → R (List D)} {t : ETg B} {test : Env B → R Bool} {fe : Env B → R D} (hK : c.K = X.K) (off : ∀ d ρ ρ', t d ρ = .ok ρ' → OffE is ρ ρ') (his : ∀ j ∈ is, j ∈ own) {σ : L2.St} {H : Hp} {Q : VK}
    (q : tDL c (lLc fi t test fe own) σ H Q) : tLc (iD c fi) (gD X.K is t) (tDT c.quiet test) (tD c.quiet fe) own σ H Q := by
  obtain ⟨I, M, ρ, e, q⟩ := q
  refine ⟨I, M, ρ, e, q.bind.mono fun items hx J H1 M1 k1 e1 wj D hD => ?_⟩
  split at hx
  case isFalse => exact hx.elim
  rename_i hc
  obtain ⟨hlen, hcl⟩ := hc
  obtain ⟨fin, hfin, hp⟩ := hx.noE
  have mD : M1 D = none := e1.mok.free hD
  refine ⟨fun i m H => m = items.length - i ∧ i ≤ items.length ∧ ∃ M acc accd rest, Step I.b M1 H1 M H ∧ EnvR c.K I M H σ ρ ∧ H D = some (.lst acc) ∧ M D = none ∧ Reps c.K M acc accd ∧ accd.length ≤ i ∧
    eachR (lcStep t test fe (wipeE ρ own)) (items.drop i) = .ok rest ∧ accd ++ rest = fin, ⟨items.length, by simp, Nat.zero_le _, M1, [], [], fin, ?_, ?_, upd_same, mD, .nil, Nat.le_refl _, by simpa using hfin, rfl⟩, ?_⟩
  · exact ⟨.of (upd_same_of hD), Same.refl _, fun a o h n => by rw [h] at n; cases n⟩
  · refine e1.grow ⟨upd_same_of hD, Same.refl _, fun a o h => ?_, fun a o h n => by rw [h] at n; cases n⟩
    exact ⟨upd_same_of hD _ _ (e1.mok a o h).1, (e1.mok a o h).2⟩
  · rintro i m H2 ⟨rfl, hi', M2, acc, accd, rest, k2, e2, hacc, mD2, racc, hal, hrest, hfin2⟩
    by_cases hlt : i < items.length
    · refine .inr ?_
      have ed : items[i]? = some items[i] := by simp [hlt]
      obtain ⟨go, yl⟩ := wj.go i H2 M2 items[i] e2.mok k2.m ed
      have hdrop : items.drop i = items[i] :: items.drop (i + 1) := by rw [List.drop_eq_getElem_cons hlt]
      rw [hdrop] at hrest
      unfold eachR at hrest
      obtain ⟨o, ho, hrest⟩ := R.bind_eq hrest
      obtain ⟨ys, hys, hrest⟩ := R.bind_eq hrest
      cases hrest
      unfold lcStep at ho
      obtain ⟨ρ1, hρ1, ho⟩ := bind_noE ho
      obtain ⟨b, hb, ho⟩ := bind_noE ho
      refine ⟨go, fun H' => ∃ M', Step I.b M1 H1 M' H' ∧ EnvR c.K I M' H' σ ρ ∧ ∃ acc accd, H' D = some (.lst acc) ∧ M' D = none ∧ Reps c.K M' acc accd ∧ accd.length ≤ i + 1 ∧ accd ++ ys = fin, fun H' h' => ?_, fun x H' y => ?_⟩
      · obtain ⟨M', a1, a2, acc', accd', a3, a4, a5, a6, a7⟩ := h'
        exact ⟨items.length - (i + 1), by omega, rfl, hlt, M', acc', accd', ys, a1, a2, a3, a4, a5, a6, hys, a7⟩
      · obtain ⟨M3, g3, r3⟩ := yl x H' y
        have e3 := e2.grow g3
        have k3 : Step I.b M1 H1 M3 H' := k2.trans (.of g3)
        have hacc3 : H' D = some (.lst acc) := g3.h _ _ hacc
        have mD3 : M3 D = none := by
          cases q3 : M3 D with
          | none => rfl
          | some o3 => rw [g3.new D o3 q3 mD2] at hacc; cases hacc
        have racc3 := racc.same g3.m
        have ew := e3.wipe own
        refine ⟨I, M3, wipeE ρ own, items[i], ρ1, hK ▸ ew, hK ▸ r3, hρ1, fun σ2 e4 o4 => ?_⟩
        have w1 := wipe_off o4 his
        have w2 := wipeE_off (off _ _ _ hρ1) his
        refine ⟨w1, ?_⟩
        have e4' : EnvR c.K I M3 H' σ2 ρ1 := hK ▸ e4
        -- back in the def's names
        have back : ∀ {M5 H5 : Hp}, EnvR c.K I M5 H5 σ2 ρ1 → Step I.b M3 H' M5 H5 → EnvR c.K I M5 H5 σ ρ := fun {M5 H5} e5 k5 => by
          have z := e5.wipe own
          rw [w1, w2] at z
          exact e3.unwipe z k5.m hcl
        have keepD : ∀ {M5 H5 : Hp}, Step I.b M3 H' M5 H5 → H5 D = some (.lst acc) ∧ M5 D = none := fun {M5 H5} k5 => by
          refine ⟨k5.k.at hacc3 rfl, ?_⟩
          cases q5 : M5 D with
          | none => rfl
          | some o5 => rw [k5.new D o5 q5 mD3] at hacc3; cases hacc3
        refine ⟨I, M3, ρ1, e4', RD.of_ok hb fun H5 M5 k5 e5 => ?_⟩
        cases b with
        | false =>
          rw [if_neg Bool.false_ne_true] at ho ⊢
          cases ho
          obtain ⟨d1, d2⟩ := keepD k5
          exact ⟨M5, k3.trans k5, back e5 k5, acc, accd, d1, d2, racc3.same k5.m, by omega, hfin2⟩
        | true =>
          rw [if_pos rfl] at ho ⊢
          obtain ⟨y5, hy5, ho⟩ := bind_noE ho
          cases ho
          refine ⟨I, M5, ρ1, e5, RD.of_ok hy5 fun v6 H6 M6 k6 e6 r6 => ?_⟩
          have k56 := k5.trans k6
          obtain ⟨d1, d2⟩ := keepD k56
          refine ⟨acc, d1, ?_, M6, ?_, ?_, acc ++ [v6], accd ++ [y5], upd_same, d2, (racc3.same k56.m).append (.cons r6 .nil), ?_, ?_⟩
          · rw [racc.length]
            exact Nat.lt_of_le_of_lt (Nat.le_trans hal hi') (Nat.lt_of_le_of_lt hlen (by decide))
          · -- the list at D grows
            have k36 := k3.trans k56
            refine ⟨fun a u h => ?_, k36.m, k36.new⟩
            by_cases z : a = D
            · subst z; rw [hD] at h; cases h
            · rw [upd_ne z]; exact k36.k a u h
          · have eb := back e6 k56
            refine ⟨eb.len, fun a u h => ?_, eb.msub, fun a u h => ?_, eb.mnew, fun j s hj => ?_, eb.apart⟩
            · by_cases z : a = D
              · subst z
                have := e1.ent.free hD
                rw [this] at h; cases h
              · rw [upd_ne z]; exact eb.ent a u h
            · have z : a ≠ D := fun z => by subst z; rw [d2] at h; cases h
              rw [upd_ne z]; exact eb.mok a u h
            · have q6 := eb.slots j s hj
              cases s with
              | no => trivial
              | val d => exact q6
              | own ds =>
                obtain ⟨l, vs, b1, b2, b3, b4, b5⟩ := q6
                have nl : l ≠ D := fun z => by
                  subst z
                  exact e1.ownThere hj hD b1
                exact ⟨l, vs, b1, by rw [upd_ne nl]; exact b2, b3, b4, b5⟩
              | obj z =>
                obtain ⟨v, b1, b2⟩ := q6
                refine ⟨v, b1, B.mono _ _ _ _ _ _ _ _ b2 (Same.refl _) (fun a o h n => by rw [h] at n; cases n) fun a o h _ ni => ?_⟩
                have nl : a ≠ D := fun z => by
                  subst z
                  rw [d1] at h
                  cases h
                  exact ni.elim (fun z => by cases z) fun z => z (e1.ent.free hD)
                rw [upd_ne nl]; exact h
          · rw [List.length_append, List.length_singleton]; omega
          · rw [List.append_assoc]; exact hfin2
    · have ei : i = items.length := by omega
      subst ei
      refine .inl ⟨wj.stop H2 M2 e2.mok k2.m, ?_⟩
      have er : rest = [] := by
        rw [List.drop_length] at hrest
        cases hrest
        rfl
      subst er
      rw [List.append_nil] at hfin2
      subst hfin2
      exact hp D acc H2 M2 (k1.trans k2) e2 hacc mD2 (k1.k.free hD) racc
/-- [elt for target in iter if ..] -/
theorem dl_lc {elt tg iter : Expr} {ifs : List Expr} {scope : Scope} {own : List (Str × Nat)} {is : List Nat} {fi : Env B → R (List D)} {t : ETg B} {test : Env B → R Bool} {fe : Env B → R D} {k : Nat} (G : Good X c k) (hi : DI X c tg iter fi) (ok : BlkOk X.N X.env.scope scope own)
    (hg : ∀ (s : Shared) (H : Hp) (C : Addr) (cl : List (Str × Addr)) (fp : List Addr), DG (X.blk s H scope (compEnvC scope cl C X.env) fp) tg is t) (his : ∀ j ∈ is, j ∈ own.map (·.2))
    (ht : ∀ (s : Shared) (H : Hp) (C : Addr) (cl : List (Str × Addr)) (fp : List Addr), Good (X.blk s H scope (compEnvC scope cl C X.env) fp) c.quiet k → DTs (X.blk s H scope (compEnvC scope cl C X.env) fp) c.quiet ifs test)
    (he : ∀ (s : Shared) (H : Hp) (C : Addr) (cl : List (Str × Addr)) (fp : List Addr), Good (X.blk s H scope (compEnvC scope cl C X.env) fp) c.quiet k → DE (X.blk s H scope (compEnvC scope cl C X.env) fp) c.quiet elt fe) (hs : ∀ x, foldedSetIterable iter X.env x = pure x := by intro _; rfl) :
    DL X c (.ListComp elt [⟨tg, iter, ifs, 0⟩] scope pos) (lLc fi t test fe (own.map (·.2))) := by
  have good : ∀ (s : Shared) (H : Hp) (C : Addr) (cl : List (Str × Addr)) (fp : List Addr), Good (X.blk s H scope (compEnvC scope cl C X.env) fp) c.quiet k := fun s H C cl fp => ⟨G.K, G.nd, G.calm, G.room, passN⟩
  exact ⟨⟨fun pins s0 σ0 H0 Q0 I0 hq0 => (pe_lc (own := own) (g := gD X.K is t) (tt := tDT c.quiet test) (te := tD c.quiet fe) G.calm G.nd hi.pi ok (fun s H C cl fp => (hg s H C cl fp).pg) (fun s H C cl fp => (ht s H C cl fp (good s H C cl fp)).pts) (fun s H C cl fp => (he s H C cl fp (good s H C cl fp)).pe) hs).run pins s0 σ0 H0 Q0 I0
    (imp_lc (elt := elt) (tg := tg) G.K (hg s0 H0 0 [] []).off his hq0)⟩⟩
/-- y = [..] on one line, y a local: its reading -/
theorem ps_lc {elt tg iter : Expr} {ifs : List Expr} {scope : Scope} {own : List (Str × Nat)} {is : List Nat} {fi : Env B → R (List D)} {t : ETg B} {test : Env B → R Bool} {fe : Env B → R D} {k i : Nat} {y : Str} {py spos : Pos} (G : Good X c k) (hy : X.N[i]? = some y) (hyl : X.env.scope.names.lookup y = some .local)
    (hsw : swapsWith (.ListComp elt [⟨tg, iter, ifs, 0⟩] scope pos) (some (.Name y py)) spos.line X.env = pure true) (hi : DI X c tg iter fi) (ok : BlkOk X.N X.env.scope scope own)
    (hg : ∀ (s : Shared) (H : Hp) (C : Addr) (cl : List (Str × Addr)) (fp : List Addr), DG (X.blk s H scope (compEnvC scope cl C X.env) fp) tg is t) (his : ∀ j ∈ is, j ∈ own.map (·.2))
    (ht : ∀ (s : Shared) (H : Hp) (C : Addr) (cl : List (Str × Addr)) (fp : List Addr), Good (X.blk s H scope (compEnvC scope cl C X.env) fp) c.quiet k → DTs (X.blk s H scope (compEnvC scope cl C X.env) fp) c.quiet ifs test)
    (he : ∀ (s : Shared) (H : Hp) (C : Addr) (cl : List (Str × Addr)) (fp : List Addr), Good (X.blk s H scope (compEnvC scope cl C X.env) fp) c.quiet k → DE (X.blk s H scope (compEnvC scope cl C X.env) fp) c.quiet elt fe) (hs : ∀ x, foldedSetIterable iter X.env x = pure x := by intro _; rfl) :
    PS X (.Assign [.Name y py] (.ListComp elt [⟨tg, iter, ifs, 0⟩] scope pos) spos) (tAsg (tDL c (lLc fi t test fe (own.map (·.2)))) (L2.gName i)) := by
  have good : ∀ (s : Shared) (H : Hp) (C : Addr) (cl : List (Str × Addr)) (fp : List Addr), Good (X.blk s H scope (compEnvC scope cl C X.env) fp) c.quiet k := fun s H C cl fp => ⟨G.K, G.nd, G.calm, G.room, passN⟩
  exact ⟨fun pins s0 σ0 H0 D0 I0 hq0 => (ps_setLc (own := own) (g := gD X.K is t) (tt := tDT c.quiet test) (te := tD c.quiet fe) G.calm G.nd hy hyl hsw hi.pi ok (fun s H C cl fp => (hg s H C cl fp).pg) (fun s H C cl fp => (ht s H C cl fp (good s H C cl fp)).pts) (fun s H C cl fp => (he s H C cl fp (good s H C cl fp)).pe) hs).run pins s0 σ0 H0 D0 I0
    (show tLc _ _ _ _ _ σ0 H0 _ from imp_lc (elt := elt) (tg := tg) G.K (hg s0 H0 0 [] []).off his hq0)⟩
end
end PL

set_option Elab.async false
set_option linter.all false
set_option maxRecDepth 100000
set_option maxHeartbeats 4000000
/-! statements, defs -/
namespace PL
open PySem PySem.Spec PyProof.Rows L2
inductive Fl where
  | nx | bk | ct
  | rt (d : D)
  | rtL (ds : List D)
abbrev GS (B : ObjB) := Env B → R (Fl × Env B)
section
variable {B : ObjB} {X : Cx} {c : Ctx B} {pos : Pos} {K : PySem.W.Frag} {I : Ent} {M H M' H' : Hp} {σ σ' : L2.St} {ρ ρ' : Env B}
def PostS (c : Ctx B) (I : Ent) (M : Hp) (Dn : Ends) (r : Fl × Env B) : Prop := match r.1 with
  | .nx => ∀ σ' H' M', Same M M' → EnvR c.K I M' H' σ' r.2 → Dn.nx σ' H'
  | .bk => ∀ σ' H' M', Same M M' → EnvR c.K I M' H' σ' r.2 → Dn.bk σ' H'
  | .ct => ∀ σ' H' M', Same M M' → EnvR c.K I M' H' σ' r.2 → Dn.ct σ' H'
  | .rt d => ∀ v σ' H' M', Same M M' → EnvR c.K I M' H' σ' r.2 → Rep c.K M' v d → Dn.rt v H'
  | .rtL ds => ∀ l vs σ' H' M', Same M M' → EnvR c.K I M' H' σ' r.2 → H' l = some (.lst vs) → M' l = none → I.H l = none → Reps c.K M' vs ds → Dn.rt (.ref l) H'
theorem PostS.same {Dn : Ends} {r : Fl × Env B} (h : PostS c I M Dn r) (s : Same M M') : PostS c I M' Dn r := by
  obtain ⟨fl, ρ⟩ := r
  cases fl with
  | nx => exact fun σ' H' M2 s2 e => h σ' H' M2 (s.trans s2) e
  | bk => exact fun σ' H' M2 s2 e => h σ' H' M2 (s.trans s2) e
  | ct => exact fun σ' H' M2 s2 e => h σ' H' M2 (s.trans s2) e
  | rt d => exact fun v σ' H' M2 s2 e r => h v σ' H' M2 (s.trans s2) e r
  | rtL ds => exact fun l vs σ' H' M2 s2 e => h l vs σ' H' M2 (s.trans s2) e
def tDS (c : Ctx B) (g : GS B) : TS := fun Dn σ H => ∃ I M ρ, EnvR c.K I M H σ ρ ∧ RD c I (g ρ) (PostS c I M Dn)
structure DS (X : Cx) (c : Ctx B) (st : Stmt) (g : GS B) : Prop where
  ps : PS X st (tDS c g)
structure DSs (X : Cx) (c : Ctx B) (sts : List Stmt) (g : GS B) : Prop where
  pss : PSs X sts (tDS c g)

/-! ### blocks -/
def gNil : GS B := fun ρ => .ok (.nx, ρ)
def gSeq (g1 g2 : GS B) : GS B := fun ρ => (g1 ρ).bind fun r => match r with
  | (.nx, ρ1) => g2 ρ1
  | r => .ok r
theorem dss_nil : DSs X c [] (gNil : GS B) := ⟨PSs.imp pss_nil fun Dn σ H ⟨I, M, ρ, e, q⟩ => q σ H M (Same.refl _) e⟩
theorem dss_cons {st : Stmt} {rest : List Stmt} {g1 g2 : GS B} (h : DS X c st g1) (h' : DSs X c rest g2) : DSs X c (st :: rest) (gSeq g1 g2) := by
  refine ⟨PSs.imp (pss_cons h.ps h'.pss) fun Dn σ H ⟨I, M, ρ, e, q⟩ => ?_⟩
  refine ⟨I, M, ρ, e, q.bind.mono fun r hr => ?_⟩
  obtain ⟨fl, ρ1⟩ := r
  cases fl with
  | nx => exact fun σ' H' M' s e' => ⟨I, M', ρ1, e', RD.mono hr fun r2 h2 => h2.same s⟩
  | bk => exact hr
  | ct => exact hr
  | rt d => exact hr
  | rtL ds => exact hr
theorem dss_one {st : Stmt} {g : GS B} (h : DS X c st g) : DSs X c [st] g := ⟨pss_one h.ps⟩
/-! ### returns, tests, expressions -/
def gRet (f : Env B → R D) : GS B := fun ρ => (f ρ).bind fun d => .ok (.rt d, ρ)
def gRetL (f : Env B → R (List D)) : GS B := fun ρ => (f ρ).bind fun d => .ok (.rtL d, ρ)
def gRetO (i : Nat) : GS B := fun ρ => match ρ[i]? with
  | some (.own ds) => .ok (.rtL ds, ρ)
  | _ => .stuck
theorem ds_ret {e : Expr} {f : Env B → R D} (h : DE X c e f) : DS X c (.Return (some e) pos) (gRet f) := by
  refine ⟨PS.imp (ps_ret h.pe) fun Dn σ H ⟨I, M, ρ, e, q⟩ => ?_⟩
  exact ⟨I, M, ρ, e, q.bind.mono fun d hd v H' M' k e' r => hd v σ H' M' k.m e' r⟩
theorem ds_retL {e : Expr} {f : Env B → R (List D)} (h : DL X c e f) : DS X c (.Return (some e) pos) (gRetL f) := by
  refine ⟨PS.imp (ps_ret h.pe) fun Dn σ H ⟨I, M, ρ, e, q⟩ => ?_⟩
  exact ⟨I, M, ρ, e, q.bind.mono fun d hd l vs H' M' k e' hl ml nl r => hd l vs σ H' M' k.m e' hl ml (e.ent.free nl) r⟩
theorem ds_retO {i : Nat} {x : Str} {p : Pos} (hN : X.N[i]? = some x) (hv : Vis X.env.scope x) (hd : (x == ("__debug__" : Str)) = false := by decide) (hcd : (x == ("__classdict__" : Str)) = false := by decide) : DS X c (.Return (some (.Name x p)) pos) (gRetO (B := B) i) := by
  refine ⟨PS.imp (ps_ret (pe_var hN hv hd hcd)) fun Dn σ H ⟨I, M, ρ, e, q⟩ => ?_⟩
  unfold gRetO at q
  split at q
  · rename_i ds hi
    obtain ⟨l, vs, a, hl, ml, il, r⟩ := e.slots i _ hi
    exact ⟨_, a, q l vs σ H M (Same.refl _) e hl ml il r⟩
  · exact q.elim
def gIf (t : Env B → R Bool) (g1 g2 : GS B) : GS B := fun ρ => (t ρ).bind fun b => if b = true then g1 ρ else g2 ρ
theorem ds_if {e : Expr} {a b : List Stmt} {t : Env B → R Bool} {g1 g2 : GS B} (ht : DT X c e t) (ha : DSs X c a g1) (hb : DSs X c b g2) : DS X c (.If e a b pos) (gIf t g1 g2) := by
  refine ⟨PS.imp (ps_if ht.pt ha.pss hb.pss) fun Dn σ H ⟨I, M, ρ, e, q⟩ => ?_⟩
  refine ⟨I, M, ρ, e, q.bind.mono fun b hb H' M' k e' => ?_⟩
  cases b with
  | true => exact ⟨I, M', ρ, e', RD.mono hb fun r h => h.same k.m⟩
  | false => exact ⟨I, M', ρ, e', RD.mono hb fun r h => h.same k.m⟩
def gDrop (f : Env B → R D) : GS B := fun ρ => (f ρ).bind fun _ => .ok (.nx, ρ)
theorem ds_expr {e : Expr} {f : Env B → R D} (h : DE X c e f) (hs : swapsWith e none pos.line X.env = pure false := by rfl) : DS X c (.Expr e pos) (gDrop f) := by
  refine ⟨PS.imp (ps_expr h.pe hs) fun Dn σ H ⟨I, M, ρ, e, q⟩ => ?_⟩
  exact ⟨I, M, ρ, e, q.bind.mono fun d hd v H' M' k e' r => hd σ H' M' k.m e'⟩
/-! ### stores -/
def gSet (i : Nat) (f : Env B → R D) : GS B := fun ρ => (f ρ).bind fun d => .ok (.nx, ρ.set i (.val d))
theorem ds_set {i : Nat} {x : Str} {e : Expr} {f : Env B → R D} {pos' : Pos} (hN : X.N.Nodup) (hi : X.N[i]? = some x) (hx : Loc X.env.scope x) (h : DE X c e f) (hs : swapsWith e (some (.Name x pos')) pos.line X.env = pure false := by rfl) (hf : X.fn x = true ∨ X.env.scope.names.lookup x = some .local := by first | exact .inl rfl | exact .inr rfl | assumption) :
    DS X c (.Assign [.Name x pos'] e pos) (gSet i f) := by
  refine ⟨PS.imp (ps_set hN hi hx h.pe hs hf) fun Dn σ H ⟨I, M, ρ, e, q⟩ => ?_⟩
  exact ⟨I, M, ρ, e, q.bind.mono fun d hd v H' M' k e' r => hd _ H' M' k.m (e'.set r)⟩
/-- x = [..], and x is changed later -/
def gOwn (i : Nat) (f : Env B → R (List D)) : GS B := fun ρ => (f ρ).bind fun d => .ok (.nx, ρ.set i (.own d))
theorem own_nx {Dn : Ends} {i : Nat} {ds : List D} {M0 H0 : Hp} (e0 : EnvR c.K I M0 H0 σ ρ) (hd : PostS c I M0 Dn (.nx, ρ.set i (.own ds))) {l : Addr} {vs : List V} (k : Step I.b M0 H0 M H) (e : EnvR c.K I M H σ ρ) (hl : H l = some (.lst vs)) (ml : M l = none) (nl : H0 l = none) (r : Reps c.K M vs ds) : Dn.nx (σ.set i (some (.ref l))) H :=
  hd _ H M k.m (e.setOwn hl ml (e0.ent.free nl) r fun j es _ hj => e0.ownThere hj nl)
theorem ds_own {i : Nat} {x : Str} {e : Expr} {f : Env B → R (List D)} {pos' : Pos} (hN : X.N.Nodup) (hi : X.N[i]? = some x) (hx : Loc X.env.scope x) (h : DL X c e f) (hs : swapsWith e (some (.Name x pos')) pos.line X.env = pure false := by rfl) (hf : X.fn x = true ∨ X.env.scope.names.lookup x = some .local := by first | exact .inl rfl | exact .inr rfl | assumption) :
    DS X c (.Assign [.Name x pos'] e pos) (gOwn i f) := by
  refine ⟨PS.imp (ps_set hN hi hx h.pe hs hf) fun Dn σ H ⟨I, M, ρ, e, q⟩ => ?_⟩
  exact ⟨I, M, ρ, e, q.bind.mono fun d hd l vs H' M' k e' hl ml nl r => own_nx e hd k e' hl ml nl r⟩
/-- y = [.. for ..] on one line -/
theorem ds_lcOwn {i : Nat} {st : Stmt} {f : Env B → R (List D)} (h : PS X st (tAsg (tDL c f) (L2.gName i))) : DS X c st (gOwn i f) := by
  refine ⟨PS.imp h fun Dn σ H ⟨I, M, ρ, e, q⟩ => ?_⟩
  exact ⟨I, M, ρ, e, q.bind.mono fun d hd l vs H' M' k e' hl ml nl r => own_nx e hd k e' hl ml nl r⟩
theorem ds_lcSet {i : Nat} {st : Stmt} {f : Env B → R (List D)} (h : PS X st (tAsg (tDL c f) (L2.gName i))) : DS X c st (gSet i (eL f)) := by
  refine ⟨PS.imp h fun Dn σ H ⟨I, M, ρ, e, q⟩ => ?_⟩
  refine ⟨I, M, ρ, e, q.bind.bind.mono fun ds hx l vs H1 M1 k1 e1 hl ml nl r => ?_⟩
  have il : I.H l = none := e.ent.free nl
  have e2 := e1.adopt (o := .lst vs) hl rfl ml il fun j es hj => fun z => e.ownThere hj nl z
  exact hx _ H1 _ (k1.m.trans (upd_same_of ml)) (e2.set (.newL ml r))
def gTgt (f : Env B → R D) (t : ETg B) : GS B := fun ρ => (f ρ).bind fun d => (noE (t d ρ)).bind fun ρ' => .ok (.nx, ρ')
theorem ds_tgt {tg e : Expr} {f : Env B → R D} {is : List Nat} {t : ETg B} (hK : c.K = X.K) (h : DE X c e f) (hg : DG X tg is t) (hs : swapsWithSole [tg] e pos.line X.env = pure false := by rfl) (hw : swappedStores [tg] e X.env = pure none := by rfl)
    (h1 : (assignEach [tg] X.env).map (·.2) = [assign tg X.env] := by rfl) : DS X c (.Assign [tg] e pos) (gTgt f t) := by
  refine ⟨PS.imp (ps_asg h.pe hg.pg hs hw h1) fun Dn σ H ⟨I, M, ρ, e, q⟩ => ?_⟩
  refine ⟨I, M, ρ, e, q.bind.mono fun d hd v H' M' k e' r => ?_⟩
  obtain ⟨ρ', hρ, hp⟩ := hd.bind.noE
  exact ⟨I, M', ρ, d, ρ', hK ▸ e', hK ▸ r, hρ, fun σ' e2 _ => hp σ' H' M' k.m (hK ▸ e2)⟩
/-- a name's own list is changed -/
theorem EnvR.updOwn {i : Nat} {l : Addr} {vs vs' : List V} {ds ds' : List D} (e : EnvR K I M H σ ρ) (h : ρ[i]? = some (.own ds)) (a : σ[i]? = some (some (.ref l))) (hl : H l = some (.lst vs)) (ml : M l = none) (il : I.H l = none) (r : Reps K M vs' ds') :
    EnvR K I M (upd H l (.lst vs')) σ (ρ.set i (.own ds')) := by
  have eσ : σ.set i (some (.ref l)) = σ := by
    apply List.ext_getElem?
    intro j
    by_cases hj : i = j
    · subst hj
      rw [List.getElem?_set_self (List.getElem?_eq_some_iff.mp a).1, a]
    · rw [List.getElem?_set_ne hj]
  have e0 : EnvR K I M H (σ.set i (some (.ref l))) (ρ.set i .no) := e.setNo
  rw [eσ] at e0
  have nn : ∀ (j : Nat) (es : List D), i ≠ j → (ρ.set i .no)[j]? = some (.own es) → σ[j]? ≠ some (some (.ref l)) := fun j es hj h1 h2 => by
    rw [List.getElem?_set_ne hj] at h1
    exact e.apart i j ds es hj h h1 (a.trans h2.symm)
  have e1 : EnvR K I M (upd H l (.lst vs')) σ (ρ.set i .no) := by
    refine ⟨e0.len, fun b u q => ?_, e0.msub, fun b u q => ?_, e0.mnew, fun j s hj => ?_, e0.apart⟩
    · by_cases z : b = l
      · subst z; rw [il] at q; cases q
      · rw [upd_ne z]; exact e0.ent b u q
    · have z : b ≠ l := fun z => by subst z; rw [ml] at q; cases q
      rw [upd_ne z]; exact e0.mok b u q
    · have q := e0.slots j s hj
      cases s with
      | no => trivial
      | val d => exact q
      | own es =>
        obtain ⟨l', ws, b1, b2, b3, b4, b5⟩ := q
        have nl : l' ≠ l := fun z => by
          subst z
          by_cases hij : i = j
          · subst hij
            by_cases hl' : i < ρ.length
            · rw [List.getElem?_set_self hl'] at hj; cases hj
            · rw [List.getElem?_eq_none (by rw [List.length_set]; omega)] at hj; cases hj
          · exact nn j es hij hj b1
        exact ⟨l', ws, b1, by rw [upd_ne nl]; exact b2, b3, b4, b5⟩
      | obj z =>
        obtain ⟨v, b1, b2⟩ := q
        refine ⟨v, b1, B.mono _ _ _ _ _ _ _ _ b2 (Same.refl _) (fun a o h n => by rw [h] at n; cases n) fun x o q _ ni => ?_⟩
        have nl : x ≠ l := fun z => by
          subst z
          rw [hl] at q
          cases q
          exact ni.elim (fun z => by cases z) fun z => z il
        rw [upd_ne nl]; exact q
  have e2 := e1.setOwn (i := i) upd_same ml il r nn
  rw [eσ, List.set_set] at e2
  exact e2
def gApp (i : Nat) (f : Env B → R D) : GS B := fun ρ => match ρ[i]? with
  | some (.own ds) => (f ρ).bind fun d => if ds.length < 100000 then .ok (.nx, ρ.set i (.own (ds ++ [d]))) else .stuck
  | _ => .stuck
theorem lt_line5 {n : Nat} (h : n < 100000) : n < sizeLine := Nat.lt_trans h (by decide)
theorem tyV_lst {K : PySem.W.Frag} {H : Hp} {l : Addr} {vs : List V} (h : H l = some (.lst vs)) : tyV K "list" (.ref l) H := .inl ⟨rfl, _, SqL.of h⟩
theorem ds_app {i : Nat} {x : Str} {e : Expr} {f : Env B → R D} {p apos cpos : Pos} (hN : X.N[i]? = some x) (hv : Vis X.env.scope x) (h : DE X c e f) (hd : (x == ("__debug__" : Str)) = false := by decide) (hcd : (x == ("__classdict__" : Str)) = false := by decide)
    (hs : swapsWith (.Call (.Attribute (.Name x p) "append" apos) [e] [] cpos) none pos.line X.env = pure false := by rfl)
    (he : starEach [e] X.env = (false, eval e X.env) :: starEach [] X.env := by rfl)
    (hm : ∀ {ta : TE} {t : TA}, PE X (.Name x p) ta → PA X [e] t → PE X (.Call (.Attribute (.Name x p) "append" apos) [e] [] cpos) (tBM X.K "list" rAppend ta t) := by intro _ _ h1 h2; exact pe_bm PySem.F.plainAttrs_list PySem.F.slot_list_append PySem.F.type_list_append mt_append h1 h2) :
    DS X c (.Expr (.Call (.Attribute (.Name x p) "append" apos) [e] [] cpos) pos) (gApp i f) := by
  refine ⟨PS.imp (ps_expr (hm (pe_var hN hv hd hcd) (pa_cons h.pe pa_nil he)) hs) fun Dn σ H ⟨I, M, ρ, e, q⟩ => ?_⟩
  unfold gApp at q
  split at q
  · rename_i ds hi
    obtain ⟨l, vs, a, hl, ml, il, r⟩ := e.slots i _ hi
    refine ⟨_, a, tyV_lst hl, ?_⟩
    refine ⟨I, M, ρ, e, q.bind.mono fun d hd v H' M' k e' rd => ?_⟩
    split at hd
    · rename_i hlen
      obtain ⟨l', vs', a', hl', ml', il', r'⟩ := e'.slots i _ hi
      rw [a] at a'
      cases a'
      refine ⟨l, vs', v, rfl, rfl, hl', ?_, ?_⟩
      · rw [r'.length]; exact lt_line5 hlen
      · exact hd σ _ M' k.m (e'.updOwn hi a hl' ml' il' (r'.append (.cons rd .nil)))
    · exact hd.elim
  · exact q.elim
def gExt (i : Nat) (f : Env B → R D) : GS B := fun ρ => match ρ[i]? with
  | some (.own ds) => (f ρ).bind fun d => match d with
    | .list es => if ds.length + es.length ≤ 100000 then .ok (.nx, ρ.set i (.own (ds ++ es))) else .stuck
    | _ => .stuck
  | _ => .stuck
theorem ds_ext {i : Nat} {x : Str} {e : Expr} {f : Env B → R D} {p apos cpos : Pos} (hN : X.N[i]? = some x) (hv : Vis X.env.scope x) (h : DE X c e f) (hd : (x == ("__debug__" : Str)) = false := by decide) (hcd : (x == ("__classdict__" : Str)) = false := by decide)
    (hs : swapsWith (.Call (.Attribute (.Name x p) "extend" apos) [e] [] cpos) none pos.line X.env = pure false := by rfl)
    (he : starEach [e] X.env = (false, eval e X.env) :: starEach [] X.env := by rfl)
    (hm : ∀ {ta : TE} {t : TA}, PE X (.Name x p) ta → PA X [e] t → PE X (.Call (.Attribute (.Name x p) "extend" apos) [e] [] cpos) (tBM X.K "list" rExtend ta t) := by intro _ _ h1 h2; exact pe_bm PySem.F.plainAttrs_list PySem.F.slot_list_extend PySem.F.type_list_extend mt_extend h1 h2) :
    DS X c (.Expr (.Call (.Attribute (.Name x p) "extend" apos) [e] [] cpos) pos) (gExt i f) := by
  refine ⟨PS.imp (ps_expr (hm (pe_var hN hv hd hcd) (pa_cons h.pe pa_nil he)) hs) fun Dn σ H ⟨I, M, ρ, e, q⟩ => ?_⟩
  unfold gExt at q
  split at q
  · rename_i ds hi
    obtain ⟨l, vs, a, hl, ml, il, r⟩ := e.slots i _ hi
    refine ⟨_, a, tyV_lst hl, ?_⟩
    refine ⟨I, M, ρ, e, q.bind.mono fun d hd v H' M' k e' rd => ?_⟩
    split at hd
    · rename_i es
      split at hd
      · rename_i hlen
        obtain ⟨l', vs', a', hl', ml', il', r'⟩ := e'.slots i _ hi
        rw [a] at a'
        cases a'
        cases rd with
        | lst hb rb =>
          refine ⟨l, _, vs', _, rfl, rfl, hl', e'.mok.same _ _ hb, ?_, ?_⟩
          · rw [r'.length, rb.length]; exact le_line5 hlen
          · exact hd σ _ M' k.m (e'.updOwn hi a hl' ml' il' (r'.append rb))
      · exact hd.elim
    · exact hd.elim
  · exact q.elim
/-- x[j] = e, x a name's own list -/
def gPut (i : Nat) (fi fv : Env B → R D) : GS B := fun ρ => (fv ρ).bind fun d => match ρ[i]? with
  | some (.own ds) => (fi ρ).bind fun j => match j with
    | .int j => match ixN ds.length j with
      | some n => .ok (.nx, ρ.set i (.own (ds.set n d)))
      | none => .stuck
    | _ => .stuck
  | _ => .stuck
theorem ds_put {i : Nat} {x : Str} {ei ev : Expr} {fi fv : Env B → R D} {p spos : Pos} (hN : X.N[i]? = some x) (hv : Vis X.env.scope x) (hi : DE X c ei fi) (h : DE X c ev fv) (hd : (x == ("__debug__" : Str)) = false := by decide) (hcd : (x == ("__classdict__" : Str)) = false := by decide)
    (ha : ∀ v, assign (.Subscript (.Name x p) ei spos) X.env v = (do
      let ov ← holding [v] (eval (.Name x p) X.env)
      let iv ← holding [v, ov] (eval ei X.env)
      standAt spos
      holding [v, ov, iv] (setItem ov iv v)
      release [v, ov, iv] []) := by intro _; rfl)
    (hs : swapsWithSole [.Subscript (.Name x p) ei spos] ev pos.line X.env = pure false := by rfl) (hw : swappedStores [.Subscript (.Name x p) ei spos] ev X.env = pure none := by rfl)
    (h1 : (assignEach [.Subscript (.Name x p) ei spos] X.env).map (·.2) = [assign (.Subscript (.Name x p) ei spos) X.env] := by rfl) :
    DS X c (.Assign [.Subscript (.Name x p) ei spos] ev pos) (gPut i fi fv) := by
  refine ⟨PS.imp (ps_asg h.pe (pg_sub (pe_var hN hv hd hcd) hi.pe set_list ha) hs hw h1) fun Dn σ H ⟨I, M, ρ, e, q⟩ => ?_⟩
  refine ⟨I, M, ρ, e, q.bind.mono fun d hd v H' M' k e' rd => ?_⟩
  split at hd
  · rename_i ds hi'
    obtain ⟨l, vs, a, hl, ml, il, r⟩ := e'.slots i _ hi'
    refine ⟨_, a, I, M', ρ, e', hd.bind.mono fun j hj u H2 M2 k2 e2 ru => ?_⟩
    split at hj
    · rename_i j
      split at hj
      · rename_i n hn
        obtain ⟨l', vs', a', hl', ml', il', r'⟩ := e2.slots i _ hi'
        rw [a] at a'
        cases a'
        cases ru
        refine ⟨l, vs', j, n, rfl, rfl, hl', by rw [r'.length]; exact hn, ?_⟩
        exact hj σ _ M2 (k.m.trans k2.m) (e2.updOwn hi' a hl' ml' il' (Reps.set (rd.same k2.m) n r'))
      · exact hj.elim
    · exact hj.elim
  · exact hd.elim
/-- a.append(b.pop(j)), both own -/
def gAppPop (i b : Nat) (fj : Env B → R D) : GS B := fun ρ => match ρ[i]?, ρ[b]? with
  | some (.own ds), some (.own es) => if i = b then .stuck else (fj ρ).bind fun j => match j with
    | .int j => if -1000000 ≤ j ∧ j ≤ 1000000 then match seqIndex? j es.length with
      | some n => match es[n]? with
        | some y => if ds.length < 100000 then .ok (.nx, (ρ.set b (.own (es.eraseIdx n))).set i (.own (ds ++ [y]))) else .stuck
        | none => .stuck
      | none => .stuck
      else .stuck
    | _ => .stuck
  | _, _ => .stuck
theorem ds_appPop {i b : Nat} {x y : Str} {ej : Expr} {fj : Env B → R D} {p apos cpos p2 apos2 cpos2 : Pos} (hN : X.N[i]? = some x) (hv : Vis X.env.scope x) (hN2 : X.N[b]? = some y) (hv2 : Vis X.env.scope y) (h : DE X c ej fj)
    (hd : (x == ("__debug__" : Str)) = false := by decide) (hcd : (x == ("__classdict__" : Str)) = false := by decide) (hd2 : (y == ("__debug__" : Str)) = false := by decide) (hcd2 : (y == ("__classdict__" : Str)) = false := by decide)
    (hs : swapsWith (.Call (.Attribute (.Name x p) "append" apos) [.Call (.Attribute (.Name y p2) "pop" apos2) [ej] [] cpos2] [] cpos) none pos.line X.env = pure false := by rfl)
    (he : starEach [.Call (.Attribute (.Name y p2) "pop" apos2) [ej] [] cpos2] X.env = (false, eval (.Call (.Attribute (.Name y p2) "pop" apos2) [ej] [] cpos2) X.env) :: starEach [] X.env := by rfl)
    (he2 : starEach [ej] X.env = (false, eval ej X.env) :: starEach [] X.env := by rfl)
    (hm : ∀ {e : Expr} {ta : TE} {t : TA}, PE X (.Name x p) ta → PA X [.Call (.Attribute (.Name y p2) "pop" apos2) [ej] [] cpos2] t → PE X (.Call (.Attribute (.Name x p) "append" apos) [.Call (.Attribute (.Name y p2) "pop" apos2) [ej] [] cpos2] [] cpos) (tBM X.K "list" rAppend ta t) := by intro _ _ _ h1 h2; exact pe_bm PySem.F.plainAttrs_list PySem.F.slot_list_append PySem.F.type_list_append mt_append h1 h2)
    (hm2 : ∀ {ta : TE} {t : TA}, PE X (.Name y p2) ta → PA X [ej] t → PE X (.Call (.Attribute (.Name y p2) "pop" apos2) [ej] [] cpos2) (tBM X.K "list" rPopAt ta t) := by intro _ _ h1 h2; exact pe_bm PySem.F.plainAttrs_list PySem.F.slot_list_pop PySem.F.type_list_pop mt_popAt h1 h2) :
    DS X c (.Expr (.Call (.Attribute (.Name x p) "append" apos) [.Call (.Attribute (.Name y p2) "pop" apos2) [ej] [] cpos2] [] cpos) pos) (gAppPop i b fj) := by
  refine ⟨PS.imp (ps_expr (hm (e := ej) (pe_var hN hv hd hcd) (pa_cons (hm2 (pe_var hN2 hv2 hd2 hcd2) (pa_cons h.pe pa_nil he2)) pa_nil he)) hs) fun Dn σ H ⟨I, M, ρ, e, q⟩ => ?_⟩
  unfold gAppPop at q
  split at q
  · rename_i ds es hi hb
    split at q
    · exact q.elim
    rename_i hib
    obtain ⟨l, vs, a, hl, ml, il, r⟩ := e.slots i _ hi
    obtain ⟨l2, ws, a2, hl2, ml2, il2, r2⟩ := e.slots b _ hb
    refine ⟨_, a, tyV_lst hl, _, a2, tyV_lst hl2, ?_⟩
    refine ⟨I, M, ρ, e, q.bind.mono fun j hj u H2 M2 k2 e2 ru => ?_⟩
    split at hj
    · rename_i j
      split at hj
      · rename_i hjb
        split at hj
        · rename_i n hn
          split at hj
          · rename_i y hy
            split at hj
            · rename_i hlen
              obtain ⟨l', vs', a', hl', ml', il', r'⟩ := e2.slots i _ hi
              rw [a] at a'; cases a'
              obtain ⟨l3, ws', a3, hl3, ml3, il3, r3⟩ := e2.slots b _ hb
              rw [a2] at a3; cases a3
              cases ru
              obtain ⟨v, hv, rv⟩ := r3.get hy
              refine ⟨l2, ws', j, n, v, rfl, rfl, hl3, by omega, by omega, by rw [r3.length]; exact hn, hv, ?_⟩
              have e4 := e2.updOwn hb a2 hl3 ml3 il3 (r3.erase n)
              have hi4 : (ρ.set b (.own (es.eraseIdx n)))[i]? = some (.own ds) := by rw [List.getElem?_set_ne (fun z => hib z.symm)]; exact hi
              have nl : l ≠ l2 := fun z => by subst z; exact e2.apart i b ds es hib hi hb (a.trans a2.symm)
              have hl4 : upd H2 l2 (.lst (ws'.eraseIdx n)) l = some (.lst vs') := by rw [upd_ne nl]; exact hl'
              refine ⟨l, vs', v, rfl, rfl, hl4, ?_, ?_⟩
              · rw [r'.length]; exact lt_line5 hlen
              · exact hj σ _ M2 k2.m (e4.updOwn hi4 a hl4 ml' il' (r'.append (.cons rv .nil)))
            · exact hj.elim
          · exact hj.elim
        · exact hj.elim
      · exact hj.elim
    · exact hj.elim
  · exact q.elim

/-! ### own lists read -/
def gFrz (i : Nat) (g : GS B) : GS B := fun ρ => match ρ[i]? with
  | some (.own ds) => g (ρ.set i (.val (.list ds)))
  | _ => .stuck
theorem dss_frz {sts : List Stmt} {g : GS B} (i : Nat) (h : DSs X c sts g) : DSs X c sts (gFrz i g) := by
  refine ⟨PSs.imp h.pss fun Dn σ H ⟨I, M, ρ, e, q⟩ => ?_⟩
  unfold gFrz at q
  split at q
  · rename_i ds hi
    obtain ⟨l, vs, a, hl, ml, il, r, e2⟩ := e.freeze hi
    exact ⟨I, _, _, e2, RD.mono q fun r h => h.same (upd_same_of ml)⟩
  · exact q.elim
def scal1 (d : D) : R D := match d with
  | .none => .ok d
  | .bool _ => .ok d
  | .int _ => .ok d
  | .str _ => .ok d
  | _ => .stuck
def noObjs (ρ : Env B) : Bool := ρ.all fun s => match s with
  | .obj _ => false
  | _ => true
def eBor (i : Nat) (f : Env B → R D) : Env B → R D := fun ρ => match ρ[i]? with
  | some (.own ds) => (f (ρ.set i (.val (.list ds)))).bind scal1
  | _ => .stuck
def tBor (i : Nat) (f : Env B → R Bool) : Env B → R Bool := fun ρ => match ρ[i]? with
  | some (.own ds) => f (ρ.set i (.val (.list ds)))
  | _ => .stuck
theorem Keep.at' {b : Bool} {H H' : Hp} (x : Keep b H H') {a : Addr} {o : HO} (h : H a = some o) (n : imm o = true) : H' a = some o := x.at h (by cases o <;> first | rfl | cases n)
theorem EnvR.kept {b : Bool} (e : EnvR K I M H σ ρ) (k : Keep b H H') (hb : b = I.b) : EnvR K I M H' σ ρ where
  len := e.len
  ent := e.ent.trans (hb ▸ k)
  msub := e.msub
  mok := fun a o h => ⟨k.at' (e.mok a o h).1 (e.mok a o h).2, (e.mok a o h).2⟩
  mnew := e.mnew
  slots := fun j s h => by
    have q := e.slots j s h
    cases s with
    | no => trivial
    | val d => exact q
    | own ds => obtain ⟨l, vs, a, hl, ml, il, r⟩ := q; exact ⟨l, vs, a, k.at hl rfl, ml, il, r⟩
    | obj z =>
      obtain ⟨v, a, r⟩ := q
      exact ⟨v, a, B.mono _ _ _ _ _ _ _ _ r (Same.refl _) (fun a o h n => by rw [h] at n; cases n) fun x o q ni _ => k.at q ni⟩
  apart := e.apart
theorem Step.keep {b : Bool} {M M2 H M' H' : Hp} (x : Step b M2 H M' H') : Step b M H M H' := ⟨x.k, Same.refl _, fun a o h n => by rw [h] at n; cases n⟩
theorem de_bor {e : Expr} {f : Env B → R D} (i : Nat) (h : DE X c e f) : DE X c e (eBor i f) := by
  refine ⟨PE.imp h.pe fun σ H Q ⟨I, M, ρ, e, q⟩ => ?_⟩
  unfold eBor at q
  split at q
  · rename_i ds hi
    obtain ⟨l, vs, a, hl, ml, il, r, e2⟩ := e.freeze hi
    refine ⟨I, _, _, e2, q.bind.mono fun d hd v H' M' k e' rd => ?_⟩
    have e3 := e.kept k.k rfl
    unfold scal1 at hd
    split at hd
    · cases rd; exact hd _ H' M k.keep e3 .non
    · cases rd; exact hd _ H' M k.keep e3 (.bl _)
    · cases rd; exact hd _ H' M k.keep e3 (.int _)
    · cases rd; exact hd _ H' M k.keep e3 (.str _)
    · exact hd.elim
  · exact q.elim
theorem dt_bor {e : Expr} {f : Env B → R Bool} (i : Nat) (h : DT X c e f) : DT X c e (tBor i f) := by
  refine ⟨PT.imp h.pt fun σ H Q ⟨I, M, ρ, e, q⟩ => ?_⟩
  unfold tBor at q
  split at q
  · rename_i ds hi
    obtain ⟨l, vs, a, hl, ml, il, r, e2⟩ := e.freeze hi
    exact ⟨I, _, _, e2, RD.mono q fun d hd H' M' k e' => hd H' M k.keep (e.kept k.k rfl)⟩
  · exact q.elim

/-! ### loops -/
def loopF (t : ETg B) (g : GS B) : List D → GS B
  | [], ρ => .ok (.nx, ρ)
  | d :: r, ρ => (noE (t d ρ)).bind fun ρ1 => (g ρ1).bind fun x => match x with
    | (.nx, ρ2) => loopF t g r ρ2
    | (.ct, ρ2) => loopF t g r ρ2
    | (.bk, ρ2) => .ok (.nx, ρ2)
    | (.rt v, ρ2) => .ok (.rt v, ρ2)
    | (.rtL v, ρ2) => .ok (.rtL v, ρ2)
def gFor (fi : Env B → R (List D)) (t : ETg B) (g : GS B) : GS B := fun ρ => (fi ρ).bind fun items => loopF t g items ρ
theorem ds_for {tg iter : Expr} {body : List Stmt} {fi : Env B → R (List D)} {is : List Nat} {t : ETg B} {g : GS B} {k : Nat} (G : GoodS X c k) (hi : DI X c tg iter fi) (hg : DG X tg is t) (hb : DSs X c body g)
    (hs : ∀ x, foldedSetIterable iter X.env x = pure x := by intro _; rfl) : DS X c (.For tg iter body [] pos) (gFor fi t g) := by
  refine ⟨PS.imp (ps_for G.own G.calm hi.pi hg.pg hb.pss hs) fun Dn σ H ⟨I, M, ρ, e, q⟩ => ?_⟩
  refine ⟨I, M, ρ, e, q.bind.mono fun items hx J H1 M1 k1 e1 wj => ?_⟩
  refine ⟨fun i m σ H => m = items.length - i ∧ i ≤ items.length ∧ ∃ M ρ, Same M1 M ∧ EnvR c.K I M H σ ρ ∧ RD c I (loopF t g (items.drop i) ρ) (PostS c I M1 Dn), ⟨items.length, by simp, Nat.zero_le _, M1, ρ, Same.refl _, e1, by rw [List.drop_zero]; exact RD.mono hx fun r h => h.same k1.m⟩, ?_⟩
  rintro i m σ2 H2 ⟨rfl, hi', M2, ρ2, s2, e2, h2⟩
  by_cases hlt : i < items.length
  · refine .inr ?_
    have ed : items[i]? = some items[i] := by simp [hlt]
    obtain ⟨go, yl⟩ := wj.go i H2 M2 items[i] e2.mok s2 ed
    rw [List.drop_eq_getElem_cons hlt] at h2
    unfold loopF at h2
    obtain ⟨ρ3, hρ3, h3⟩ := h2.bind.noE
    refine ⟨go, fun σ' H' => ∃ M ρ, Same M1 M ∧ EnvR c.K I M H' σ' ρ ∧ RD c I (loopF t g (items.drop (i + 1)) ρ) (PostS c I M1 Dn), fun σ' H' h' => ⟨items.length - (i + 1), by omega, rfl, hlt, h'⟩, fun x H' y => ?_⟩
    obtain ⟨M3, g3, r3⟩ := yl x H' y
    have e3 := e2.grow g3
    refine ⟨I, M3, ρ2, items[i], ρ3, G.K ▸ e3, G.K ▸ r3, hρ3, fun σ4 e4 _ => ?_⟩
    have e4' : EnvR c.K I M3 H' σ4 ρ3 := G.K ▸ e4
    have s3 := s2.trans g3.m
    refine ⟨I, M3, ρ3, e4', h3.bind.mono fun r hr => ?_⟩
    obtain ⟨fl, ρ5⟩ := r
    cases fl with
    | nx => exact fun σ5 H5 M5 s5 e5 => ⟨M5, ρ5, s3.trans s5, e5, hr⟩
    | ct => exact fun σ5 H5 M5 s5 e5 => ⟨M5, ρ5, s3.trans s5, e5, hr⟩
    | bk => exact fun σ5 H5 M5 s5 e5 => (show PostS c I M1 Dn (.nx, ρ5) from hr) σ5 H5 M5 (s3.trans s5) e5
    | rt v => exact (show PostS c I M1 Dn (.rt v, ρ5) from hr).same s3
    | rtL v => exact (show PostS c I M1 Dn (.rtL v, ρ5) from hr).same s3
  · have ei : i = items.length := by omega
    subst ei
    rw [List.drop_length] at h2
    exact .inl ⟨wj.stop H2 M2 e2.mok s2, (show PostS c I M1 Dn (.nx, ρ2) from h2) σ2 H2 M2 s2 e2⟩
def whileF (t : Env B → R Bool) (g : GS B) : Nat → GS B
  | 0, _ => .stuck
  | n + 1, ρ => (t ρ).bind fun b => if b = true then (g ρ).bind fun x => (match x with
    | (.nx, ρ2) => whileF t g n ρ2
    | (.ct, ρ2) => whileF t g n ρ2
    | (.bk, ρ2) => .ok (.nx, ρ2)
    | (.rt v, ρ2) => .ok (.rt v, ρ2)
    | (.rtL v, ρ2) => .ok (.rtL v, ρ2)) else .ok (.nx, ρ)
theorem ds_while {e : Expr} {body : List Stmt} {t : Env B → R Bool} {g : GS B} {k : Nat} (n : Nat) (G : GoodS X c k) (ht : DT X c e t) (hb : DSs X c body g) : DS X c (.While e body [] pos) (whileF t g n) := by
  refine ⟨PS.imp (ps_while G.own ht.pt hb.pss) fun Dn σ H ⟨I, M, ρ, e, q⟩ => ?_⟩
  refine ⟨fun m σ H => ∃ M' ρ, Same M M' ∧ EnvR c.K I M' H σ ρ ∧ RD c I (whileF t g m ρ) (PostS c I M Dn), ⟨n, M, ρ, Same.refl _, e, q⟩, ?_⟩
  rintro m σ2 H2 ⟨M2, ρ2, s2, e2, h2⟩
  cases m with
  | zero => exact h2.elim
  | succ m =>
    unfold whileF at h2
    refine ⟨I, M2, ρ2, e2, h2.bind.mono fun b hb' H3 M3 k3 e3 => ?_⟩
    have s3 := s2.trans k3.m
    cases b with
    | true =>
      rw [if_pos rfl] at hb'
      refine iteT ⟨fun σ' H' => ∃ M' ρ, Same M M' ∧ EnvR c.K I M' H' σ' ρ ∧ RD c I (whileF t g m ρ) (PostS c I M Dn), fun σ' H' h' => ⟨m, Nat.lt_succ_self _, h'⟩, ?_⟩
      refine ⟨I, M3, ρ2, e3, hb'.bind.mono fun r hr => ?_⟩
      obtain ⟨fl, ρ5⟩ := r
      cases fl with
      | nx => exact fun σ5 H5 M5 s5 e5 => ⟨M5, ρ5, s3.trans s5, e5, hr⟩
      | ct => exact fun σ5 H5 M5 s5 e5 => ⟨M5, ρ5, s3.trans s5, e5, hr⟩
      | bk => exact fun σ5 H5 M5 s5 e5 => (show PostS c I M Dn (.nx, ρ5) from hr) σ5 H5 M5 (s3.trans s5) e5
      | rt v => exact (show PostS c I M Dn (.rt v, ρ5) from hr).same s3
      | rtL v => exact (show PostS c I M Dn (.rtL v, ρ5) from hr).same s3
    | false =>
      rw [if_neg Bool.false_ne_true] at hb'
      refine iteF ?_
      exact (show PostS c I M Dn (.nx, ρ2) from hb') σ2 H3 M3 s3 e3

/-! ### raise -/
def gExc (n : Nat) : GS B := fun _ => .exc n
structure ExcF (X : Cx) (C : Addr) (x : Str) : Prop where
  g : X.mg x = some (.ref C)
  q : PySem.W.excIn X.K C [.type "ValueError", .type "Exception", .type "BaseException", .type "object"] "ValueError.__new__" = true
  kp : PySem.W.keepIn X.K (.ref C) = true
  sub : PySem.W.subIn X.K (.ref C) (.type "BaseException") = some true
  ty : PySem.W.typeIn X.K (.ref C) = some (.type "type")
theorem ds_raise {x m : Str} {j : Nat} {p p2 cpos : Pos} {n k : Nat} (G : GoodS X c k) (F : ExcF X (c.cA n) x) (hg : Gl X x := by rfl) (hdb : (x == ("__debug__" : Str)) = false := by decide) :
    DS X c (.Raise (some (.Call (.Name x p) [.Constant (.str m) j p2] [] cpos)) none pos) (gExc n) := by
  refine ⟨PS.imp (L2N.ps_raise G.calm G.takes (L2N.pmk_own PySem.F.excBase_ValueError F.q F.g F.kp (raises_own F.sub F.ty) hg hdb)) fun Dn σ H ⟨I, M, ρ, e, q⟩ => ?_⟩
  exact q H e.ent
end
end PL

set_option Elab.async false
set_option linter.all false
set_option maxRecDepth 100000
set_option maxHeartbeats 4000000
/-! defs: contracts, calls -/
namespace PL
open PySem PySem.Spec PyProof.Rows L2
section
variable {B : ObjB} {P : Program} {w : World} {K : PySem.W.Frag} {mg : Str → Option Value} {base : Heap} {cA : Nat → Addr}
/-- what a call over data promises -/
def RF {α : Type} (cA : Nat → Addr) (E : XK) (H : Hp) (r : R α) (Pp : α → Prop) : Prop := match r with
  | .ok a => Pp a
  | .exc n => ∀ H', Same H H' → E (.ref (cA n)) none H'
  | .stuck => False
def spD (K : PySem.W.Frag) (cA : Nat → Addr) (ar : Nat) (F : List D → R D) : Sp := fun vs H Q E => vs.length = ar ∧ ∃ M ds, MOk M H ∧ Reps K M vs ds ∧ RF cA E H (F ds) fun d => ∀ v H' M', Grow M H M' H' → Rep K M' v d → Q v H'
/-- .. where a fresh list comes back -/
def spL (K : PySem.W.Frag) (cA : Nat → Addr) (ar : Nat) (F : List D → R (List D)) : Sp := fun vs H Q E => vs.length = ar ∧ ∃ M ds, MOk M H ∧ Reps K M vs ds ∧ RF cA E H (F ds) fun xs => ∀ l ws H' M', Grow M H M' H' → H' l = some (.lst ws) → M' l = none → H l = none → Reps K M' ws xs → Q (.ref l) H'
structure DfS (P : Program) (w : World) (K : PySem.W.Frag) (mg : Str → Option Value) (base : Heap) (x : Str) (k ar : Nat) (sp : Sp) : Prop where
  ex : ∃ f fd ps, List.length (α := Str) ps = ar ∧ FnOk P w K mg base (L2N.CX P w) k f fd ps sp ∧ mg x = some (.ref f) ∧ PySem.W.keepIn K (.ref f) = true ∧ Binds K fd ps []
abbrev Df (P : Program) (w : World) (K : PySem.W.Frag) (mg : Str → Option Value) (base : Heap) (cA : Nat → Addr) (x : Str) (k ar : Nat) (F : List D → R D) : Prop := DfS P w K mg base x k ar (spD K cA ar F)
abbrev DfL (P : Program) (w : World) (K : PySem.W.Frag) (mg : Str → Option Value) (base : Heap) (cA : Nat → Addr) (x : Str) (k ar : Nat) (F : List D → R (List D)) : Prop := DfS P w K mg base x k ar (spL K cA ar F)
theorem DfS.imp {x : Str} {k ar : Nat} {sp sp' : Sp} (d : DfS P w K mg base x k ar sp) (h : ∀ vs H Q E, sp' vs H Q E → sp vs H Q E) : DfS P w K mg base x k ar sp' := by
  obtain ⟨f, fd, ps, h1, h2, h3, h4, h5⟩ := d.ex
  exact ⟨f, fd, ps, h1, h2.imp h, h3, h4, h5⟩
theorem DfS.mono {x : Str} {k j ar : Nat} {sp : Sp} (d : DfS P w K mg base x k ar sp) (h : k ≤ j) : DfS P w K mg base x j ar sp := by
  obtain ⟨f, fd, ps, h1, h2, h3, h4, h5⟩ := d.ex
  exact ⟨f, fd, ps, h1, h2.mono h, h3, h4, h5⟩
def listR (F : List D → R (List D)) : List D → R D := fun ds => (F ds).bind fun xs => .ok (.list xs)
theorem Grow.adopt {M H M' H' : Hp} (g : Grow M H M' H') {l : Addr} {o : HO} (hl : H' l = some o) (io : imm o = true) (ml : M' l = none) (nl : H l = none) : Grow M H (upd M' l o) H' where
  h := g.h
  m := g.m.trans (upd_same_of ml)
  ok := fun a u h => by
    by_cases z : a = l
    · subst z; rw [upd_same] at h; cases h; exact ⟨hl, io⟩
    · rw [upd_ne z] at h; exact g.ok a u h
  new := fun a u h n => by
    by_cases z : a = l
    · subst z; exact nl
    · rw [upd_ne z] at h; exact g.new a u h n
theorem DfS.toD {x : Str} {k ar : Nat} {F : List D → R (List D)} (d : DfL P w K mg base cA x k ar F) : Df P w K mg base cA x k ar (listR F) := d.imp fun vs H Q E ⟨h1, M, ds, h2, h3, h4⟩ => by
  refine ⟨h1, M, ds, h2, h3, ?_⟩
  unfold listR at h4
  cases hF : F ds with
  | ok xs =>
    rw [hF] at h4
    exact fun l ws H' M' g hl ml nl r => h4 _ H' _ (g.adopt hl rfl ml nl) (.newL ml r)
  | exc n => rw [hF] at h4; exact h4
  | stuck => rw [hF] at h4; exact h4.elim
/-- a function that says the same where it says anything -/
theorem DfS.of_eq {x : Str} {k ar : Nat} {F G : List D → R D} (d : Df P w K mg base cA x k ar F) (h : ∀ ds, G ds ≠ .stuck → F ds = G ds) : Df P w K mg base cA x k ar G := d.imp fun vs H Q E ⟨h1, M, ds, h2, h3, h4⟩ => by
  refine ⟨h1, M, ds, h2, h3, ?_⟩
  have ne : G ds ≠ .stuck := fun z => by rw [z] at h4; exact h4
  rw [h ds ne]
  exact h4
theorem DfS.of_eqL {x : Str} {k ar : Nat} {F G : List D → R (List D)} (d : DfL P w K mg base cA x k ar F) (h : ∀ ds, G ds ≠ .stuck → F ds = G ds) : DfL P w K mg base cA x k ar G := d.imp fun vs H Q E ⟨h1, M, ds, h2, h3, h4⟩ => by
  refine ⟨h1, M, ds, h2, h3, ?_⟩
  have ne : G ds ≠ .stuck := fun z => by rw [z] at h4; exact h4
  rw [h ds ne]
  exact h4

/-! ### calls -/
variable {X : Cx} {c : Ctx B} {pos : Pos}
def eCall (ar : Nat) (F : List D → R D) (f : Env B → R (List D)) : Env B → R D := fun ρ => (f ρ).bind fun ds => if ds.length = ar then F ds else .stuck
theorem de_call {x : Str} {e : Expr} {es : List Expr} {f : Env B → R (List D)} {k j ar : Nat} {F : List D → R D} {p : Pos} (G : Good X c k) (d : Df X.prog X.w X.K X.mg X.base c.cA x j ar F) (hj : j ≤ k) (ha : DA X c (e :: es) f) (hg : Gl X x := by rfl)
    (hdb : (x == ("__debug__" : Str)) = false := by decide) (he : starEach (e :: es) X.env = (false, eval e X.env) :: starEach es X.env := by rfl) (hpl : (backTo pos (starEach es X.env)).any (·.1) = false := by rfl) :
    DE X c (.Call (.Name x p) (e :: es) [] pos) (eCall ar F f) := by
  obtain ⟨fa, fd, ps, hl, hF, hm, hk, hb⟩ := d.ex
  refine ⟨PE.imp (pe_call hF (G.room.mono hj) hg hm hk hb .nil G.pass ha.pa hdb he hpl) fun σ H Q ⟨I, M, ρ, e, q⟩ => ?_⟩
  refine ⟨I, M, ρ, e, q.bind.mono fun ds hx vs H1 M1 k1 e1 r1 => ?_⟩
  split at hx
  · rename_i hlen
    rw [List.append_nil]
    refine ⟨by rw [r1.length]; exact hlen, M1, ds, e1.mok, G.K ▸ r1, ?_⟩
    cases hF : F ds with
    | ok a =>
      rw [hF] at hx
      exact fun v H' M' g r => hx v H' M' (k1.trans (.of g)) (e1.grow g) (G.K ▸ r)
    | exc n =>
      rw [hF] at hx
      exact fun H' s => hx H' (e1.ent.trans (.of s))
    | stuck => rw [hF] at hx; exact hx.elim
  · exact hx.elim
def lCall (ar : Nat) (F : List D → R (List D)) (f : Env B → R (List D)) : Env B → R (List D) := fun ρ => (f ρ).bind fun ds => if ds.length = ar then F ds else .stuck
theorem dl_call {x : Str} {e : Expr} {es : List Expr} {f : Env B → R (List D)} {k j ar : Nat} {F : List D → R (List D)} {p : Pos} (G : Good X c k) (d : DfL X.prog X.w X.K X.mg X.base c.cA x j ar F) (hj : j ≤ k) (ha : DA X c (e :: es) f) (hg : Gl X x := by rfl)
    (hdb : (x == ("__debug__" : Str)) = false := by decide) (he : starEach (e :: es) X.env = (false, eval e X.env) :: starEach es X.env := by rfl) (hpl : (backTo pos (starEach es X.env)).any (·.1) = false := by rfl) :
    DL X c (.Call (.Name x p) (e :: es) [] pos) (lCall ar F f) := by
  obtain ⟨fa, fd, ps, hl, hF, hm, hk, hb⟩ := d.ex
  refine ⟨PE.imp (pe_call hF (G.room.mono hj) hg hm hk hb .nil G.pass ha.pa hdb he hpl) fun σ H Q ⟨I, M, ρ, e, q⟩ => ?_⟩
  refine ⟨I, M, ρ, e, q.bind.mono fun ds hx vs H1 M1 k1 e1 r1 => ?_⟩
  split at hx
  · rename_i hlen
    rw [List.append_nil]
    refine ⟨by rw [r1.length]; exact hlen, M1, ds, e1.mok, G.K ▸ r1, ?_⟩
    cases hF : F ds with
    | ok a =>
      rw [hF] at hx
      exact fun l ws H' M' g hl ml nl r => hx l ws H' M' (k1.trans (.of g)) (e1.grow g) hl ml (k1.k.free nl) (G.K ▸ r)
    | exc n =>
      rw [hF] at hx
      exact fun H' s => hx H' (e1.ent.trans (.of s))
    | stuck => rw [hF] at hx; exact hx.elim
  · exact hx.elim

/-! ### a def keeps its promise -/
def startE (n : Nat) (ds : List D) : Env B := ds.map .val ++ List.replicate (n - ds.length) .no
theorem startE_env {K : PySem.W.Frag} {N : List Str} {M H : Hp} {vs : List V} {ds : List D} (k : MOk M H) (r : Reps K M vs ds) : EnvR K ⟨M, H, false⟩ M H (L2.start N vs) (startE (B := B) N.length ds) where
  len := by
    unfold L2.start startE
    simp only [List.length_append, List.length_map, List.length_replicate, r.length]
  ent := .refl
  msub := Same.refl _
  mok := k
  mnew := fun a o h n => by
    have n' : M a = none := n
    rw [h] at n'; cases n'
  slots := fun i s h => by
    unfold startE at h
    unfold L2.start
    by_cases hi : i < ds.length
    · rw [List.getElem?_append_left (by simpa using hi), List.getElem?_map] at h
      rw [List.getElem?_append_left (by rw [List.length_map, r.length]; exact hi), List.getElem?_map]
      cases hd : ds[i]? with
      | none => rw [hd] at h; cases h
      | some d =>
        rw [hd] at h
        cases h
        obtain ⟨v, hv, rv⟩ := r.get hd
        exact ⟨v, by rw [hv]; rfl, rv⟩
    · rw [List.getElem?_append_right (by simpa using hi), List.getElem?_replicate] at h
      split at h
      · cases h; trivial
      · cases h
  apart := fun i j ds' es hne h1 h2 => by
    unfold startE at h1
    by_cases hi : i < ds.length
    · rw [List.getElem?_append_left (by simpa using hi), List.getElem?_map] at h1
      cases hd : ds[i]? with
      | none => rw [hd] at h1; cases h1
      | some d => rw [hd] at h1; cases h1
    · rw [List.getElem?_append_right (by simpa using hi), List.getElem?_replicate] at h1
      split at h1
      · cases h1
      · cases h1
/-- what a body's run hands back -/
def endF (r : Fl × Env B) : R D := match r.1 with
  | .nx => .ok .none
  | .rt d => .ok d
  | .rtL ds => .ok (.list ds)
  | _ => .stuck
def endL (r : Fl × Env B) : R (List D) := match r.1 with
  | .rtL ds => .ok ds
  | _ => .stuck
def runF (n : Nat) (g : GS B) : List D → R D := fun ds => (g (startE n ds)).bind endF
def runL (n : Nat) (g : GS B) : List D → R (List D) := fun ds => (g (startE n ds)).bind endL
theorem EnvR.growth {K : PySem.W.Frag} {M0 H0 M H : Hp} {σ : L2.St} {ρ : Env B} (e : EnvR K ⟨M0, H0, false⟩ M H σ ρ) : Grow M0 H0 M H := ⟨e.ent.same, e.msub, e.mok, e.mnew⟩
abbrev bodyC (P : Program) (w : World) (K : PySem.W.Frag) (mg : Str → Option Value) (base : Heap) (N : List Str) (qual : Str) (scope : Scope) (f : Addr) (cd : Value) (A : Around) (outer : List PySem.Env) (s : Shared) (H : Hp) (E : XK) : Cx :=
  cxOf (L2N.CX P w) P w K mg base N qual scope f cd A outer s H E
theorem good_body {P : Program} {w : World} {K : PySem.W.Frag} {mg : Str → Option Value} {base : Heap} {N : List Str} {qual : Str} {scope : Scope} {f : Addr} {cd : Value} {A : Around} {outer : List PySem.Env} {s : Shared} {H : Hp} {E : XK} {k : Nat} (nd : N.Nodup) (hr : Room k (A.deeper (envOfC qual scope s.heap.objs.size f cd))) :
    GoodS (B := B) (bodyC P w K mg base N qual scope f cd A outer s H E) ⟨K, cA, E⟩ k where
  K := rfl
  nd := nd
  calm := rfl
  room := hr
  pass := L2N.passes_call (W := fun cls d _ H => E cls d H) (L2N.takes_of rfl rfl rfl rfl) fun _ _ _ _ h => h
  own := passes_of rfl
  takes := L2N.takes_of rfl rfl rfl rfl
theorem fnok_mk {x qual : Str} {params : Arguments} {body : List Stmt} {scope : Scope} {kws : List (Str × V)} {f : Addr} {fd : FuncData} {N ps : List Str} {k : Nat} {g : GS B} (FD : FunD K x qual params body scope [] kws f fd) (S : FnScope N ps scope)
    (hbody : ∀ (cdv : Value) (A : Around) (outer : List PySem.Env) (s : Shared) (H : Hp) (E : XK), GoodS (B := B) (bodyC P w K mg base N qual scope f cdv A outer s H E) ⟨K, cA, E⟩ k → DSs (bodyC P w K mg base N qual scope f cdv A outer s H E) ⟨K, cA, E⟩ body g) :
    FnOk P w K mg base (L2N.CX P w) (k + 1) f fd ps (spD K cA ps.length (runF N.length g)) := by
  refine FD.ok S (fun vs H Q E h => h.1) (fun cdv A outer s H vs Q E hr ⟨hl, M, ds, mk, r, h⟩ => ⟨_, (hbody cdv A outer s H E (good_body S.nd hr)).pss, ?_⟩)
  refine ⟨⟨M, H, false⟩, M, startE N.length ds, startE_env mk r, ?_⟩
  unfold runF at h
  cases hg : g (startE N.length ds) with
  | ok res =>
    rw [hg] at h
    obtain ⟨fl, ρ'⟩ := res
    cases fl with
    | nx => exact fun σ' H' M' s' e' => (show ∀ v H' M', Grow M H M' H' → Rep K M' v .none → Q v H' from h) _ H' M' e'.growth .non
    | bk => exact h.elim
    | ct => exact h.elim
    | rt d => exact fun v σ' H' M' s' e' r' => (show ∀ v H' M', Grow M H M' H' → Rep K M' v d → Q v H' from h) v H' M' e'.growth r'
    | rtL xs => exact fun l ws σ' H' M' s' e' hl ml il r' => (show ∀ v H' M', Grow M H M' H' → Rep K M' v (.list xs) → Q v H' from h) _ H' _ (e'.growth.adopt hl rfl ml il) (.newL ml r')
  | exc n =>
    rw [hg] at h
    exact fun H' k' => h H' k'.same
  | stuck => rw [hg] at h; exact h.elim
theorem df_mk {x qual : Str} {params : Arguments} {body : List Stmt} {scope : Scope} {kws : List (Str × V)} {f : Addr} {fd : FuncData} {N ps : List Str} {k : Nat} {g : GS B} (FD : FunD K x qual params body scope [] kws f fd) (S : FnScope N ps scope)
    (hb : Binds K fd ps []) (gx : mg x = some (.ref f))
    (hbody : ∀ (cdv : Value) (A : Around) (outer : List PySem.Env) (s : Shared) (H : Hp) (E : XK), GoodS (B := B) (bodyC P w K mg base N qual scope f cdv A outer s H E) ⟨K, cA, E⟩ k → DSs (bodyC P w K mg base N qual scope f cdv A outer s H E) ⟨K, cA, E⟩ body g) :
    Df P w K mg base cA x (k + 1) ps.length (runF N.length g) := ⟨f, fd, ps, rfl, fnok_mk FD S hbody, gx, FD.kp, hb⟩
theorem dfl_mk {x qual : Str} {params : Arguments} {body : List Stmt} {scope : Scope} {kws : List (Str × V)} {f : Addr} {fd : FuncData} {N ps : List Str} {k : Nat} {g : GS B} (FD : FunD K x qual params body scope [] kws f fd) (S : FnScope N ps scope)
    (hb : Binds K fd ps []) (gx : mg x = some (.ref f))
    (hbody : ∀ (cdv : Value) (A : Around) (outer : List PySem.Env) (s : Shared) (H : Hp) (E : XK), GoodS (B := B) (bodyC P w K mg base N qual scope f cdv A outer s H E) ⟨K, cA, E⟩ k → DSs (bodyC P w K mg base N qual scope f cdv A outer s H E) ⟨K, cA, E⟩ body g) :
    DfL P w K mg base cA x (k + 1) ps.length (runL N.length g) := by
  refine ⟨f, fd, ps, rfl, FD.ok S (fun vs H Q E h => h.1) (fun cdv A outer s H vs Q E hr ⟨hl, M, ds, mk, r, h⟩ => ⟨_, (hbody cdv A outer s H E (good_body S.nd hr)).pss, ?_⟩), gx, FD.kp, hb⟩
  refine ⟨⟨M, H, false⟩, M, startE N.length ds, startE_env mk r, ?_⟩
  unfold runL at h
  cases hg : g (startE N.length ds) with
  | ok res =>
    rw [hg] at h
    obtain ⟨fl, ρ'⟩ := res
    cases fl with
    | nx => exact h.elim
    | bk => exact h.elim
    | ct => exact h.elim
    | rt d => exact h.elim
    | rtL xs => exact fun l ws σ' H' M' s' e' hl ml il r' => (show ∀ l ws H' M', Grow M H M' H' → H' l = some (.lst ws) → M' l = none → H l = none → Reps K M' ws xs → Q (.ref l) H' from h) l ws H' M' e'.growth hl ml il r'
  | exc n =>
    rw [hg] at h
    exact fun H' k' => h H' k'.same
  | stuck => rw [hg] at h; exact h.elim
end
/-- the facts that a law's text gives -/
structure Facts (K : PySem.W.Frag) (mg : Str → Option Value) (fa : List He.Fa) (fn : List He.DefD) : Prop where
  says : He.SaysD fa fn K
  at_ : ∃ h : Heap, K.In h ∧ h.Ns mainGlobals mg
namespace Facts
variable {K : PySem.W.Frag} {mg : Str → Option Value} {fa : List He.Fa} {fn : List He.DefD} (T : Facts K mg fa fn)
include T
theorem glo (i : Nat) {x : Str} (h : fa[i]? = some (.glo x) := by rfl) : mg x = some (.ref (He.ga K x)) := by
  obtain ⟨hh, X, G⟩ := T.at_
  exact He.glo_ok X G (T.says.fact i h)
theorem free (i : Nat) {x : Str} (h : fa[i]? = some (.free x) := by rfl) : mg x = none := by
  obtain ⟨hh, X, G⟩ := T.at_
  exact He.free_ok X G (T.says.fact i h)
theorem int (i : Nat) {x : Str} {z : Int} (h : fa[i]? = some (.int x z) := by rfl) : ∃ t, mg x = some (.int z t) := by
  obtain ⟨hh, X, G⟩ := T.at_
  exact He.int_ok X G (T.says.fact i h)
theorem exc {X : Cx} (hX : X.K = K) (hm : X.mg = mg) (i j : Nat) {x : Str} (h : fa[i]? = some (.exc x) := by rfl) (h2 : fa[j]? = some (.glo x) := by rfl) : ExcF X (He.ga K x) x := by
  obtain ⟨a, b, c, d⟩ := He.exc_ok (T.says.fact i h)
  subst hX hm
  exact ⟨T.glo j h2, a, b, c, d⟩
end Facts
section
variable {B : ObjB} {X : Cx} {c : Ctx B} {pos : Pos}
theorem de_gint {x : Str} {z : Int} (h : ∃ t, X.mg x = some (.int z t)) (hg : Gl X x := by rfl) (hd : (x == ("__debug__" : Str)) = false := by decide) : DE X c (.Name x pos) (eC (.int z)) := by
  obtain ⟨t, h⟩ := h
  exact de_glob (v := .int z) (d := .int z) hg h ⟨t, rfl⟩ (fun _ => .int z) hd
end
end PL

set_option Elab.async false
set_option linter.all false
set_option maxRecDepth 100000
set_option maxHeartbeats 4000000
/-! sorted, sets of ints -/
namespace PL
open PySem PySem.Spec PyProof.Rows L2
/-! ### sorting by insertion -/
def insD {α : Type} (le : α → α → Bool) (x : α) : List α → List α
  | [] => [x]
  | y :: r => if le x y = true then x :: y :: r else y :: insD le x r
def isort {α : Type} (le : α → α → Bool) : List α → List α
  | [] => []
  | x :: r => insD le x (isort le r)
section
variable {α : Type} {le : α → α → Bool}
theorem insD_mem {x z : α} : ∀ {l : List α}, z ∈ insD le x l ↔ z = x ∨ z ∈ l
  | [] => by simp [insD]
  | y :: r => by
    unfold insD
    split
    · simp
    · rw [List.mem_cons, insD_mem, List.mem_cons]
      constructor
      · rintro (h | h | h)
        · exact .inr (.inl h)
        · exact .inl h
        · exact .inr (.inr h)
      · rintro (h | h | h)
        · exact .inr (.inl h)
        · exact .inl h
        · exact .inr (.inr h)
theorem insD_sorted (h : PySem.W.TotalLe le) {x : α} : ∀ {l : List α}, l.Pairwise (fun a b => le a b = true) → (insD le x l).Pairwise (fun a b => le a b = true)
  | [], _ => by simp [insD]
  | y :: r, p => by
    unfold insD
    obtain ⟨p1, p2⟩ := List.pairwise_cons.mp p
    split
    · rename_i hxy
      refine List.pairwise_cons.mpr ⟨fun z hz => ?_, p⟩
      rcases List.mem_cons.mp hz with rfl | hz
      · exact hxy
      · exact h.trans _ _ _ hxy (p1 z hz)
    · rename_i hxy
      refine List.pairwise_cons.mpr ⟨fun z hz => ?_, insD_sorted h p2⟩
      rcases insD_mem.mp hz with rfl | hz
      · exact (h.total y z).resolve_right hxy
      · exact p1 z hz
theorem insD_filter (h : PySem.W.TotalLe le) {x : α} (c : α) : ∀ {l : List α}, (insD le x l).filter (PySem.W.sameRank le c) = (x :: l).filter (PySem.W.sameRank le c)
  | [] => rfl
  | y :: r => by
    unfold insD
    split
    · rfl
    · rename_i hxy
      rw [List.filter_cons, insD_filter h c]
      have key : ¬ (PySem.W.sameRank le c x = true ∧ PySem.W.sameRank le c y = true) := by
        rintro ⟨a, b⟩
        have a' : (le c x && le x c) = true := a
        have b' : (le c y && le y c) = true := b
        rw [Bool.and_eq_true] at a' b'
        exact hxy (h.trans _ _ _ a'.2 b'.1)
      by_cases hx : PySem.W.sameRank le c x = true
      · have hy : ¬ PySem.W.sameRank le c y = true := fun z => key ⟨hx, z⟩
        simp [hx, hy]
      · by_cases hy : PySem.W.sameRank le c y = true <;> simp [hx, hy]
theorem isort_sorted (h : PySem.W.TotalLe le) : ∀ l : List α, (isort le l).Pairwise (fun a b => le a b = true)
  | [] => .nil
  | x :: r => insD_sorted h (isort_sorted h r)
theorem isort_filter (h : PySem.W.TotalLe le) (c : α) : ∀ l : List α, (isort le l).filter (PySem.W.sameRank le c) = l.filter (PySem.W.sameRank le c)
  | [] => rfl
  | x :: r => by
    unfold isort
    rw [insD_filter h, List.filter_cons, List.filter_cons, isort_filter h c r]
theorem isort_eq (h : PySem.W.TotalLe le) (l : List α) : l.mergeSort le = isort le l := (PySem.W.sort_unique h (isort_sorted h l) fun c => isort_filter h c l).symm
theorem isort_memi : ∀ {l : List α} {z : α}, z ∈ isort le l ↔ z ∈ l
  | [], z => by simp [isort]
  | x :: r, z => by unfold isort; rw [insD_mem, isort_memi, List.mem_cons]
theorem insD_length {x : α} : ∀ {l : List α}, (insD le x l).length = l.length + 1
  | [] => rfl
  | y :: r => by
    unfold insD
    split
    · rfl
    · rw [List.length_cons, insD_length]; rfl
theorem isort_length : ∀ {l : List α}, (isort le l).length = l.length
  | [] => rfl
  | x :: r => by unfold isort; rw [insD_length, isort_length]; rfl
end
abbrev leD : D → D → Bool := PySem.W.dataLe false id
theorem leD_total : PySem.W.TotalLe leD := PySem.W.sortLe_total _ _ _
def alikeB (ds : List D) : Bool := ds.all fun d => ds.all fun e => PySem.W.alike d e
def sortableB (ds : List D) : Bool := (ds.all fun d => match d with | .tuple (_ :: _) => true | _ => false) || (ds.all fun d => match d with | .none => false | .tuple _ => false | _ => true)
def deep64 (ds : List D) : Bool := ds.all fun d => decide (d.depth ≤ 64)
/-- sorted(xs) of a list -/
def lSorted (xs : List D) : R (List D) := match xs with
  | [.list ds] => if (alikeB ds && sortableB ds && deep64 ds && PyData.canLayAll0 ds) = true ∧ ds.length ≤ 100000 then .ok (isort leD ds) else .stuck
  | _ => .stuck
def rSortedD (K : PySem.W.Frag) : List V → Hp → VK → Prop := fun vs H Q => ∃ (a : Addr) (xs : List V) (ds : List D), vs = [.ref a] ∧ SqL K H a xs ∧ DpAll K H xs ds ∧ (alikeB ds && sortableB ds && deep64 ds && PyData.canLayAll0 ds) = true ∧ ds.length ≤ 100000 ∧
  ∀ (zs : List (V × D)) (p : Addr), zs = isort (fun a b => leD a.2 b.2) (xs.zip ds) → H p = none → Q (.ref p) (upd H p (.lst (zs.map (·.1))))
theorem dpAll_length {K : PySem.W.Frag} {H : Hp} : ∀ {xs : List V} {ds : List D}, DpAll K H xs ds → xs.length = ds.length
  | _, _, .nil => rfl
  | _, _, .cons _ t => congrArg Nat.succ (dpAll_length t)
theorem each_zip {K : PySem.W.Frag} {H : Hp} {h : Heap} : ∀ {xs : List V} {ds : List D} {us : List Value}, Vals xs us → xs.length = ds.length → PySem.W.EachIs (fun v (b : V × D) => RelV b.1 v) us (xs.zip ds)
  | [], [], _, .nil, _ => .nil
  | x :: xs, d :: ds, _, .cons r t, e => .cons r (each_zip (K := K) (H := H) (h := h) t (by simpa using e))
theorem each_reads {h : Heap} : ∀ {xs : List V} {ds : List D} {us : List Value} {as : List Addr}, ReadsAll h us ds as → xs.length = ds.length → PySem.W.EachIs (fun v (b : V × D) => ∃ as, Reads h v b.2 as) us (xs.zip ds)
  | [], [], _, _, .nil, _ => .nil
  | x :: xs, d :: ds, _, _, .cons r t, e => .cons ⟨_, r⟩ (each_reads t (by simpa using e))
theorem each_vals : ∀ {zs : List (V × D)} {us : List Value}, PySem.W.EachIs (fun v (b : V × D) => RelV b.1 v) us zs → Vals (zs.map (·.1)) us
  | _, _, .nil => .nil
  | _, _, .cons r t => .cons r (each_vals t)
theorem zip_snd : ∀ {xs : List V} {ds : List D}, xs.length = ds.length → (xs.zip ds).map (·.2) = ds
  | [], [], _ => rfl
  | x :: xs, d :: ds, e => by
    show d :: (xs.zip ds).map (·.2) = d :: ds
    rw [zip_snd (by simpa using e)]
theorem cr_sortedD {X : Cx} (hu : X.A.units + 100 < cLine) : CallR X (.builtin "sorted") (rSortedD X.K) := by
  intro pins s σ H vs us Q I r h
  obtain ⟨a, xs, ds, rfl, hs, hd, hb, hlen, q⟩ := h
  simp only [Bool.and_eq_true] at hb
  obtain ⟨⟨⟨b1, b2⟩, b3⟩, b4⟩ := hb
  rw [Vals.ref1 r]
  obtain ⟨its, rv, p, hz⟩ := I.list hs
  have hl := dpAll_length hd
  obtain ⟨as, hr⟩ := Dp.readsAll I ds xs its hd rv
  have em : (xs.zip ds).map (·.2) = ds := zip_snd hl
  have hal : PySem.W.AllAlike ((xs.zip ds).map (·.2)) := by
    rw [em]
    intro d hd d' hd'
    exact List.all_eq_true.mp (List.all_eq_true.mp b1 d hd) d' hd'
  have hk : PySem.W.Sortable ((xs.zip ds).map (·.2)) := by
    rw [em]
    rcases Bool.or_eq_true_iff.mp b2 with b2 | b2
    · refine .inl fun d hd => ?_
      have z := List.all_eq_true.mp b2 d hd
      split at z
      · exact ⟨_, _, rfl⟩
      · cases z
    · refine .inr fun d hd => ?_
      have z := List.all_eq_true.mp b2 d hd
      split at z
      · cases z
      · cases z
      · rename_i n1 n2
        exact ⟨fun e => n1 e, fun ys e => n2 ys e⟩
  refine PySem.W.sorted_data (enc := fun b : V × D => b.2) (R := fun v (b : V × D) => RelV b.1 v) p.isList (each_zip (K := X.K) (H := H) (h := s.heap) rv hl) (each_reads hr hl) hal hk ?_ (fun b hb => ?_) fun out ho he => ?_
  · rw [List.length_zip, hl, Nat.min_self]; exact le_line5 hlen
  · have : b.2 ∈ ds := by rw [← em]; exact List.mem_map.mpr ⟨b, hb, rfl⟩
    have := of_decide_eq_true (List.all_eq_true.mp b3 b.2 this)
    omega
  · have tot : PySem.W.TotalLe (PySem.W.dataLe false fun b : V × D => b.2) := PySem.W.sortLe_total _ _ _
    rw [isort_eq tot] at he
    obtain ⟨c, hg⟩ := PyProof.Rows.sortedAll_at s.heap its (List.toArray out)
    have hp : s.heap.objs.size ≤ s.heap.objs.size + 1 := Nat.le_succ _
    have hn : H (s.heap.objs.size + 1) = none := I.hok.fresh hp
    have hzl : ((isort (PySem.W.dataLe false fun b : V × D => b.2) (xs.zip ds)).map (·.1)).length ≤ sizeLine := by
      rw [List.length_map, isort_length, List.length_zip, hl, Nat.min_self]; exact le_line5 hlen
    refine ⟨.ref (s.heap.objs.size + 1), _, I.laid (o := .lst ((isort (PySem.W.dataLe false fun b : V × D => b.2) (xs.zip ds)).map (·.1))) (t' := s.toks) (fun b u e => PyProof.Rows.sortedAll_old e) hp ⟨hzl, out, c, each_vals he, hg⟩, rfl, q _ _ rfl hn⟩
theorem isort_zip {K : PySem.W.Frag} {M : Hp} : ∀ {xs : List V} {ds : List D}, Reps K M xs ds → Reps K M ((isort (fun a b : V × D => leD a.2 b.2) (xs.zip ds)).map (·.1)) (isort leD ds) := by
  have ins : ∀ {x : V} {d : D} {zs : List (V × D)}, Rep K M x d → Reps K M (zs.map (·.1)) (zs.map (·.2)) → Reps K M ((insD (fun a b : V × D => leD a.2 b.2) (x, d) zs).map (·.1)) ((insD (fun a b : V × D => leD a.2 b.2) (x, d) zs).map (·.2)) ∧
      (insD (fun a b : V × D => leD a.2 b.2) (x, d) zs).map (fun b => b.2) = insD leD d (zs.map (fun b => b.2)) := by
    intro x d zs hx
    induction zs with
    | nil => intro _; exact ⟨.cons hx .nil, rfl⟩
    | cons y r ih =>
      intro h
      cases h with
      | cons h1 h2 =>
        obtain ⟨i1, i2⟩ := ih h2
        by_cases c : leD d y.2 = true
        · simp only [insD, List.map_cons]
          rw [if_pos c, if_pos c]
          exact ⟨.cons hx (.cons h1 h2), rfl⟩
        · simp only [insD, List.map_cons]
          rw [if_neg c, if_neg c]
          exact ⟨.cons h1 i1, by rw [List.map_cons, i2]⟩
  have key : ∀ {xs : List V} {ds : List D}, Reps K M xs ds → Reps K M ((isort (fun a b : V × D => leD a.2 b.2) (xs.zip ds)).map (·.1)) ((isort (fun a b : V × D => leD a.2 b.2) (xs.zip ds)).map (·.2)) ∧
      (isort (fun a b : V × D => leD a.2 b.2) (xs.zip ds)).map (·.2) = isort leD ds := by
    intro xs ds h
    induction xs generalizing ds with
    | nil => cases h; exact ⟨.nil, rfl⟩
    | cons x xs ih =>
      cases h with
      | cons h1 h2 =>
        obtain ⟨i1, i2⟩ := ih h2
        obtain ⟨j1, j2⟩ := ins (zs := isort (fun a b : V × D => leD a.2 b.2) (xs.zip _)) h1 i1
        refine ⟨j1, ?_⟩
        exact j2.trans (by rw [i2]; rfl)
  intro xs ds h
  obtain ⟨a, b⟩ := key h
  rw [b] at a
  exact a
section
variable {B : ObjB} {X : Cx} {c : Ctx B} {pos : Pos}
theorem boot_sortedB : bootBuiltins "sorted" = some (.builtin "sorted") := by decide +kernel
theorem boot_setT : bootBuiltins "set" = some (.type "set") := by decide +kernel
def eSorted (f : Env B → R (List D)) : Env B → R (List D) := fun ρ => (f ρ).bind fun xs => lSorted xs
theorem units100 {k : Nat} (h : Room k X.A) : X.A.units + 100 < cLine := by have := h.un; omega
theorem dl_sorted {e : Expr} {es : List Expr} {f : Env B → R (List D)} {p : Pos} {k : Nat} (G : Good X c k) (hm : X.mg "sorted" = none) (ha : DA X c (e :: es) f) (hg : Gl X "sorted" := by rfl) (he : starEach (e :: es) X.env = (false, eval e X.env) :: starEach es X.env := by rfl) (hpl : (backTo pos (starEach es X.env)).any (·.1) = false := by rfl) :
    DL X c (.Call (.Name "sorted" p) (e :: es) [] pos) (eSorted f) := by
  refine ⟨PE.imp (pe_callB (cr_sortedD (units100 G.room)) hg hm boot_sortedB ha.pa (he := he) (hpl := hpl)) fun σ H Q ⟨I, M, ρ, e, q⟩ => ?_⟩
  refine ⟨I, M, ρ, e, q.bind.mono fun x hx v H1 M1 k1 e1 r1 => ?_⟩
  unfold lSorted at hx
  split at hx
  · split at hx
    · rename_i hc
      obtain ⟨hb, hl⟩ := hc
      cases r1 with
      | cons r1 r2 =>
        cases r2
        cases r1 with
        | lst h r =>
          have hb' := hb
          simp only [Bool.and_eq_true] at hb'
          refine ⟨_, _, _, rfl, SqL.of (e1.mok.same _ _ h), DpAll.up e1.mok.same (G.K ▸ r.dp hb'.2), hb, hl, fun zs p hz hp => ?_⟩
          subst hz
          exact fresh_end hx k1 e1 (isort_zip r) p hp
    · exact hx.elim
  · exact hx.elim

/-! ### sets of ints -/
/-- the members, rising -/
def insU (x : Int) : List Int → List Int
  | [] => [x]
  | y :: r => if x < y then x :: y :: r else if x = y then y :: r else y :: insU x r
def distI : List Int → List Int
  | [] => []
  | x :: r => insU x (distI r)
theorem insU_mem {x z : Int} : ∀ {l : List Int}, z ∈ insU x l ↔ z = x ∨ z ∈ l
  | [] => by simp [insU]
  | y :: r => by
    unfold insU
    split
    · simp
    · split
      · rename_i h; subst h; simp
      · rw [List.mem_cons, insU_mem, List.mem_cons]
        constructor
        · rintro (h | h | h)
          · exact .inr (.inl h)
          · exact .inl h
          · exact .inr (.inr h)
        · rintro (h | h | h)
          · exact .inr (.inl h)
          · exact .inl h
          · exact .inr (.inr h)
theorem insU_up {x : Int} : ∀ {l : List Int}, l.Pairwise (· < ·) → (insU x l).Pairwise (· < ·)
  | [], _ => by simp [insU]
  | y :: r, p => by
    unfold insU
    obtain ⟨p1, p2⟩ := List.pairwise_cons.mp p
    split
    · rename_i h
      refine List.pairwise_cons.mpr ⟨fun z hz => ?_, p⟩
      rcases List.mem_cons.mp hz with rfl | hz
      · exact h
      · have := p1 z hz; omega
    · split
      · exact p
      · refine List.pairwise_cons.mpr ⟨fun z hz => ?_, insU_up p2⟩
        rcases insU_mem.mp hz with rfl | hz
        · omega
        · exact p1 z hz
theorem distI_mem : ∀ {l : List Int} {z : Int}, z ∈ distI l ↔ z ∈ l
  | [], z => by simp [distI]
  | x :: r, z => by unfold distI; rw [insU_mem, distI_mem, List.mem_cons]
theorem distI_up : ∀ l : List Int, (distI l).Pairwise (· < ·)
  | [] => .nil
  | x :: r => insU_up (distI_up r)
theorem up_unique : ∀ {a b : List Int}, a.Pairwise (· < ·) → b.Pairwise (· < ·) → (∀ z, z ∈ a ↔ z ∈ b) → a = b
  | [], [], _, _, _ => rfl
  | [], y :: b, _, _, h => absurd ((h y).mpr (by simp)) (by simp)
  | x :: a, [], _, _, h => absurd ((h x).mp (by simp)) (by simp)
  | x :: a, y :: b, pa, pb, h => by
    obtain ⟨a1, a2⟩ := List.pairwise_cons.mp pa
    obtain ⟨b1, b2⟩ := List.pairwise_cons.mp pb
    have e : x = y := by
      have hx := (h x).mp (by simp)
      have hy := (h y).mpr (by simp)
      rcases List.mem_cons.mp hx with e | hx
      · exact e
      · rcases List.mem_cons.mp hy with e | hy
        · exact e.symm
        · have := b1 x hx; have := a1 y hy; omega
    subst e
    rw [up_unique a2 b2 fun z => ?_]
    constructor
    · intro hz
      rcases List.mem_cons.mp ((h z).mp (List.mem_cons_of_mem _ hz)) with e | q
      · subst e; exact absurd (a1 z hz) (by omega)
      · exact q
    · intro hz
      rcases List.mem_cons.mp ((h z).mpr (List.mem_cons_of_mem _ hz)) with e | q
      · subst e; exact absurd (b1 z hz) (by omega)
      · exact q
theorem up_nodup {a : List Int} (h : a.Pairwise (· < ·)) : a.Nodup := h.imp fun h e => by omega
theorem nodup_len : ∀ {a b : List Int}, a.Nodup → b.Nodup → (∀ z, z ∈ a ↔ z ∈ b) → a.length = b.length := fun {a b} ha hb h =>
  ((List.perm_ext_iff_of_nodup ha hb).mpr h).length_eq
def setInts (x : D) : R (List Int) := match x with
  | .tuple ds => match intsOf ds with
    | some ns => if ns.length ≤ 60 then .ok ns else .stuck
    | none => .stuck
  | _ => .stuck
/-- sorted(set(t)), len(set(t)), t a tuple of ints -/
def eSortSet (f : Env B → R D) : Env B → R (List D) := fun ρ => (f ρ).bind fun x => (setInts x).bind fun ns => .ok ((distI ns).map .int)
def eLenSet (f : Env B → R D) : Env B → R D := fun ρ => (f ρ).bind fun x => (setInts x).bind fun ns => .ok (.int (distI ns).length)
theorem setInts_rd {I : Ent} {x : D} {P : List Int → Prop} (h : RD c I (setInts x) P) : ∃ ns, x = .tuple (ns.map .int) ∧ ns.length ≤ 60 ∧ P ns := by
  unfold setInts at h
  split at h
  · split at h
    · rename_i ns hn
      split at h
      · exact ⟨ns, by rw [intsOf_eq hn], by assumption, h⟩
      · exact h.elim
    · exact h.elim
  · exact h.elim
/-- set(t): the set stands -/
def rSetT (K : PySem.W.Frag) (w : World) : V → Hp → VK → Prop := fun x H Q => ∃ (l : Addr) (ns : List Int), x = .ref l ∧ SqT K H l (ns.map V.int) ∧ ns.length ≤ 60 ∧ ∀ p n, H p = none → n ≤ ns.length → (distI ns).length = n → Q (.ref p) (upd H p (SetO w p (fun j => decide (j ∈ ns)) n))
theorem setR_len {w : World} {h : Heap} {a : Addr} {ns : List Int} {n : Nat} (R : SetR w h a (fun j => decide (j ∈ ns)) n) : (distI ns).length = n := by
  obtain ⟨o, es, ep, t, _, _, _, g, nd, hm, _, _, hn, _, _⟩ := R
  have e : (distI ns).length = (es.toList.map keyOf).length := nodup_len (up_nodup (distI_up ns)) nd fun z => by
    rw [distI_mem, ← hm z]
    simp
  rw [e, List.length_map, Array.length_toList, hn]
theorem pe_setT {a : Expr} {ta : TE} {p q : Pos} (hg2 : Gl X "set") (hm2 : X.mg "set" = none) (hc : X.calm = true) (ha : PE X a ta) (na : starEach [a] X.env = (false, eval a X.env) :: starEach [] X.env := by rfl) : PE X (.Call (.Name "set" p) [a] [] q) (tUn (rSetT X.K X.w) ta) := by
  refine ⟨fun pins s σ H Q I h => ?_⟩
  refine Call_ (ld_blt I hg2 hm2 PyProof.Rows.boot_set ?_)
  refine PyProof.Rows.callWith_type1 (PyProof.Rows.args_cons (thn (ha.run pins s σ H _ I h) fun v s1 ⟨x, H1, I1, r1, q1⟩ => PyProof.Rows.args_nil ?_) na) na rfl
  obtain ⟨l, ns, rfl, hq, hl, q1⟩ := q1
  cases r1
  obtain ⟨its, rv, pt, hz⟩ := I1.tuple hq
  have hi : IntsAre its.toArray.toList ns := by simpa using Vals.ints rv
  refine call_set_tupI ns (I1.ok.hd hc) (show s1.heap.IsTuple l its.toArray from pt) hi (by unfold scanBound; omega) fun h' tk n R1 hcn k => ?_
  have hn : H1 s1.heap.objs.size = none := I1.hok.fresh (Nat.le_refl _)
  exact ⟨.ref s1.heap.objs.size, _, I1.laid (t' := tk) k (Nat.le_refl _) (setO_new R1), rfl, q1 _ n hn hcn (setR_len R1)⟩
theorem dl_sortSet {a : Expr} {f : Env B → R D} {p p2 q : Pos} {k : Nat} (G : Good X c k) (hm : X.mg "sorted" = none) (hm2 : X.mg "set" = none) (ha : DE X c a f) (hg : Gl X "sorted" := by rfl) (hg2 : Gl X "set" := by rfl)
    (na : starEach [a] X.env = (false, eval a X.env) :: starEach [] X.env := by rfl) (he : starEach [.Call (.Name "set" p2) [a] [] q] X.env = (false, eval (.Call (.Name "set" p2) [a] [] q) X.env) :: starEach [] X.env := by rfl) :
    DL X c (.Call (.Name "sorted" p) [.Call (.Name "set" p2) [a] [] q] [] pos) (eSortSet f) := by
  refine ⟨PE.imp (pe_callB (cr_sortedSet G.calm) hg hm boot_sortedB (pa_cons (pe_setT hg2 hm2 G.calm ha.pe na) pa_nil he) (he := he) (hpl := rfl)) fun σ H Q ⟨I, M, ρ, e, q⟩ => ?_⟩
  refine ⟨I, M, ρ, e, q.bind.mono fun x hx v H1 M1 k1 e1 r1 => ?_⟩
  obtain ⟨ns, rfl, hl, hx⟩ := setInts_rd hx.bind
  cases r1 with
  | tup h r =>
    cases r.ints
    refine ⟨_, ns, rfl, G.K ▸ sqT_same e1.mok.same h, hl, fun p0 n hp hn hd => ?_⟩
    refine ⟨p0, _, n, rfl, upd_same, by omega, fun ms p1 hup hmem hlen hp1 => ?_⟩
    have em : ms = distI ns := up_unique hup (distI_up ns) fun z => by rw [hmem z, distI_mem]; simp
    subst em
    -- the set itself stays behind
    have sm : Same H1 (upd H1 p0 (SetO X.w p0 (fun j => decide (j ∈ ns)) n)) := upd_same_of hp
    have g : Grow M1 H1 M1 (upd H1 p0 (SetO X.w p0 (fun j => decide (j ∈ ns)) n)) := ⟨sm, Same.refl _, fun b o z => ⟨sm _ _ (e1.mok b o z).1, (e1.mok b o z).2⟩, fun b o z n => by rw [z] at n; cases n⟩
    exact fresh_end hx (k1.trans (.of g)) (e1.grow g) (Reps.of_ints _) p1 hp1
theorem call_len_setO {pins : List (Addr × Obj)} {σ : L2.St} {H : Hp} {s : Shared} {a : Addr} {S : Int → Bool} {n : Nat} {Q : VK} (I : Inv X pins σ H s) (ha : H a = some (SetO X.w a S n)) (hn : n < 100) (q : Q (.int n) H) : wpAny (model X.prog X.w) X.A (PySem.call (.builtin "len") [.ref a]) (EP X pins σ Q) X.xe s := by
  obtain ⟨o, es, ep, t, ho, hex, hd, _, _, _, _, hf, hn', _⟩ := setO_get I ha
  exact call_len_set ho hex hd hf (by omega) ⟨.int n, H, I.tok _, ⟨_, by rw [hn']⟩, q⟩
theorem de_lenSet {a : Expr} {f : Env B → R D} {p p2 q : Pos} {k : Nat} (G : Good X c k) (hm : X.mg "len" = none) (hm2 : X.mg "set" = none) (ha : DE X c a f) (hg : Gl X "len" := by rfl) (hg2 : Gl X "set" := by rfl)
    (na : starEach [a] X.env = (false, eval a X.env) :: starEach [] X.env := by rfl) (he : starEach [.Call (.Name "set" p2) [a] [] q] X.env = (false, eval (.Call (.Name "set" p2) [a] [] q) X.env) :: starEach [] X.env := by rfl) :
    DE X c (.Call (.Name "len" p) [.Call (.Name "set" p2) [a] [] q] [] pos) (eLenSet f) := by
  have hcall : CallR X (.builtin "len") (fun xs H Q => ∃ a S n, xs = [.ref a] ∧ H a = some (SetO X.w a S n) ∧ n < 100 ∧ Q (.int n) H) := by
    intro pins s σ H xs us Q I r h
    obtain ⟨a, S, n, rfl, ha, hn, q⟩ := h
    rw [Vals.ref1 r]
    exact call_len_setO I ha hn q
  refine ⟨PE.imp (pe_callB hcall hg hm PySem.boot_len (pa_cons (pe_setT hg2 hm2 G.calm ha.pe na) pa_nil he) (he := he) (hpl := rfl)) fun σ H Q ⟨I, M, ρ, e, q⟩ => ?_⟩
  refine ⟨I, M, ρ, e, q.bind.mono fun x hx v H1 M1 k1 e1 r1 => ?_⟩
  obtain ⟨ns, rfl, hl, hx⟩ := setInts_rd hx.bind
  cases r1 with
  | tup h r =>
    cases r.ints
    refine ⟨_, ns, rfl, G.K ▸ sqT_same e1.mok.same h, hl, fun p0 n hp hn hd => ?_⟩
    have sm : Same H1 (upd H1 p0 (SetO X.w p0 (fun j => decide (j ∈ ns)) n)) := upd_same_of hp
    have g : Grow M1 H1 M1 (upd H1 p0 (SetO X.w p0 (fun j => decide (j ∈ ns)) n)) := ⟨sm, Same.refl _, fun b o z => ⟨sm _ _ (e1.mok b o z).1, (e1.mok b o z).2⟩, fun b o z n => by rw [z] at n; cases n⟩
    refine ⟨p0, _, n, rfl, upd_same, by omega, ?_⟩
    rw [hd] at hx
    exact hx _ _ M1 (k1.trans (.of g)) (e1.grow g) (.int _)
end
end PL

set_option Elab.async false
set_option linter.all false
set_option maxRecDepth 100000
set_option maxHeartbeats 4000000
/-! more conversions -/
namespace PL
open PySem PySem.Spec PyProof.Rows L2
section
variable {B : ObjB} {X : Cx} {c : Ctx B} {pos : Pos} {K : PySem.W.Frag} {I : Ent} {M H M' H' : Hp} {σ σ' : L2.St} {ρ ρ' : Env B}
/-- list(range(n)) -/
def lListRange (f : Env B → R D) : Env B → R (List D) := fun ρ => (f ρ).bind fun x => match x with
  | .int j => if -100000 ≤ j ∧ j ≤ 100000 then .ok (rangeD 0 j) else .stuck
  | _ => .stuck
theorem reps_rg {a b : Int} : Reps K M (rgV a b) (rangeD a b) := by
  have e1 : rgV a b = ((List.range (b - a).toNat).map fun i : Nat => a + (i : Int)).map V.int := by unfold rgV; rw [List.map_map]; rfl
  have e2 : rangeD a b = ((List.range (b - a).toNat).map fun i : Nat => a + (i : Int)).map PyData.int := by unfold rangeD; rw [List.map_map]; rfl
  rw [e1, e2]
  exact Reps.of_ints _
theorem dl_listRange {a : Expr} {f : Env B → R D} {p p2 q : Pos} {k : Nat} (G : Good X c k) (hm : X.mg "list" = none) (hm2 : X.mg "range" = none) (ha : DE X c a f) (hg : Gl X "list" := by rfl) (hg2 : Gl X "range" := by rfl)
    (na : starEach [a] X.env = (false, eval a X.env) :: starEach [] X.env := by rfl) (he : starEach [.Call (.Name "range" p2) [a] [] q] X.env = (false, eval (.Call (.Name "range" p2) [a] [] q) X.env) :: starEach [] X.env := by rfl) :
    DL X c (.Call (.Name "list" p) [.Call (.Name "range" p2) [a] [] q] [] pos) (lListRange f) := by
  refine ⟨PE.imp (pe_listRg G.calm hg hm (prg_1 hg2 hm2 ha.pe na) he) fun σ H Q ⟨I, M, ρ, e, q⟩ => ?_⟩
  refine ⟨I, M, ρ, e, q.bind.mono fun x hx v H1 M1 k1 e1 r1 => ?_⟩
  split at hx
  · rename_i j
    split at hx
    · rename_i hb
      cases r1
      exact ⟨j, rfl, ⟨by omega, by omega, by omega, by omega, by omega⟩, fresh_end hx k1 e1 reps_rg⟩
    · exact hx.elim
  · exact hx.elim
/-- {} -/
theorem de_dic : DE X c (.Dict [] [] pos) (eC (.dict [])) := by
  refine ⟨PE.imp pe_dnewK fun σ H Q ⟨I, M, ρ, e, q⟩ => fun p hp => ?_⟩
  have g := Grow.alloc e.mok hp (o := .dK []) rfl
  exact q (.ref p) _ _ (.of g) (e.grow g) (.dic upd_same)
end
end PL

set_option Elab.async false
set_option linter.all false
set_option maxRecDepth 100000
set_option maxHeartbeats 4000000
/-! caught errors -/
namespace PL
open PySem PySem.Spec PyProof.Rows L2
/-! ### a hook with more facts -/
def hookX (n : Nat) (fa : List He.Fa) (fn : List He.DefD) (ex : PySem.W.Frag → Bool) : PySem.W.Hook where
  α := He.AlD
  obs := fun s => let K := He.frG s.heap.get? (He.asD s.heap.get? n); ((He.obsD fa fn K).1 && ex K, (He.obsD fa fn K).2)
  val := fun _ => He.valD fn
  says := fun _ h => ∃ K : PySem.W.Frag, K.In h ∧ He.SaysD fa fn K ∧ ex K = true
  of := fun _ _ e => by
    have e1 := congrArg (fun z : He.AlD => z.1) e
    have e2 := congrArg (fun z : He.AlD => z.2) e
    obtain ⟨b1, b2⟩ := He.ba (show ((He.obsD fa fn _).1 && ex _) = true from e1)
    exact ⟨_, He.frG_in, Prod.ext b1 e2, b2⟩
  keeps := fun _ _ _ ⟨K, hK, c, d⟩ k => ⟨K, PySem.W.Frag.In.keeps hK k, c, d⟩
def obX (n : Nat) (fa : List He.Fa) (fn : List He.DefD) (ex : PySem.W.Frag → Bool) (g : Addr → Option Obj) : He.AlD := ((He.obsD fa fn (He.frG g (He.asD g n))).1 && ex (He.frG g (He.asD g n)), (He.obsD fa fn (He.frG g (He.asD g n))).2)
theorem obX_eq {n : Nat} {fa : List He.Fa} {fn : List He.DefD} {ex : PySem.W.Frag → Bool} {g : Addr → Option Obj} {s : Shared} (h : ∀ a, g a = s.heap.get? a) : obX n fa fn ex g = (hookX n fa fn ex).obs s := by
  have e : g = s.heap.get? := funext h
  rw [e] <;> rfl

/-! ### isinstance of a caught error -/
def excB (a : Addr) : ObjB := ⟨Unit, fun _ _ _ _ v _ => v = .ref a, fun _ _ _ _ _ _ _ _ h _ _ _ => h⟩
def excCB (K : PySem.W.Frag) (D : Addr) : Bool :=
  decide (PySem.W.findIn K (.ref D) "__getattribute__" = some (some (.builtin "BaseException.__getattribute__"))) && (decide (PySem.W.findIn K (.ref D) "__getattr__" = some none) && (decide (PySem.W.subIn K (.ref D) (.type "BaseException") = some true) &&
  (PySem.W.hasDictIn K D && (decide (PySem.W.findIn K (.ref D) "__class__" = some (some (.builtin "object.__class__"))) && (decide (PySem.W.specialIn K (.builtin "object.__class__") "__get__" = some (some (.builtin "getset_descriptor.__get__"))) &&
  (decide (PySem.W.takesIn K (.builtin "object.__class__") = some true) && decide (PySem.W.mroIn K D (.type "object") = some true)))))))
theorem excCB_ok {K : PySem.W.Frag} {D : Addr} (h : excCB K D = true) : ExcC K D := by
  unfold excCB at h
  obtain ⟨h1, h⟩ := He.ba h
  obtain ⟨h2, h⟩ := He.ba h
  obtain ⟨h3, h⟩ := He.ba h
  obtain ⟨h4, h⟩ := He.ba h
  obtain ⟨h5, h⟩ := He.ba h
  obtain ⟨h6, h⟩ := He.ba h
  obtain ⟨h7, h8⟩ := He.ba h
  exact ⟨of_decide_eq_true h1, of_decide_eq_true h2, of_decide_eq_true h3, h4, of_decide_eq_true h5, of_decide_eq_true h6, of_decide_eq_true h7, of_decide_eq_true h8⟩
/-- the names of the classes of errors, what is asked of the classes -/
def exNames : List Str := ["PanError", "BadCount", "BadCases", "BadDone"]
def exFacts (K : PySem.W.Frag) : Bool := [("BadCount" : Str), "BadCases", "BadDone"].all fun x => excCB K (He.ga K x) && (decide (PySem.W.kitOne K (.ref (He.ga K x)) (.type "ValueError") = some true) && (decide (PySem.W.exmOne K (.ref (He.ga K x)) (.ref (He.ga K "PanError")) = some true) &&
  [("BadCount" : Str), "BadCases", "BadDone"].all fun y => decide (PySem.W.kitOne K (.ref (He.ga K x)) (.ref (He.ga K y)) = some (decide (x = y)))))
structure ExcK (K : PySem.W.Frag) (x : Str) : Prop where
  c : ExcC K (He.ga K x)
  ve : PySem.W.kitOne K (.ref (He.ga K x)) (.type "ValueError") = some true
  pe : PySem.W.exmOne K (.ref (He.ga K x)) (.ref (He.ga K "PanError")) = some true
  is : ∀ y ∈ [("BadCount" : Str), "BadCases", "BadDone"], PySem.W.kitOne K (.ref (He.ga K x)) (.ref (He.ga K y)) = some (decide (x = y))
theorem exFacts_ok {K : PySem.W.Frag} (h : exFacts K = true) {x : Str} (hx : x ∈ [("BadCount" : Str), "BadCases", "BadDone"]) : ExcK K x := by
  have h1 := List.all_eq_true.mp h x hx
  obtain ⟨a, h1⟩ := He.ba h1
  obtain ⟨b, h1⟩ := He.ba h1
  obtain ⟨d, h1⟩ := He.ba h1
  exact ⟨excCB_ok a, of_decide_eq_true b, of_decide_eq_true d, fun y hy => of_decide_eq_true (List.all_eq_true.mp h1 y hy)⟩
section
variable {B : ObjB} {X : Cx} {c : Ctx B} {pos : Pos} {K : PySem.W.Frag} {I : Ent} {M H M' H' : Hp} {σ σ' : L2.St} {ρ ρ' : Env B}
theorem call_isX {a D : Addr} {oe : Obj} (C : ExcC X.K D) (hp : (a, oe) ∈ X.pn) (hz : L2N.Zn (.ref D) none oe) (hf : ∃ vs, oe.data = .fields vs) : CallR X (.builtin "isinstance") (rIsE X.K D a) := by
  intro pins s τ H0 xs us Q J r h
  obtain ⟨t, cv, b, rfl, hcv, e, q⟩ := h
  obtain ⟨ux, ut, rfl, rx, rt⟩ : ∃ ux ut, us = [ux, ut] ∧ RelV (.ref a) ux ∧ RelV t ut := by
    cases r with
    | cons rx rr => cases rr with
      | cons rt rr => cases rr; exact ⟨_, _, rfl, rx, rt⟩
  cases hcv _ rt
  cases rx
  have hget := (J.pin (a, oe) (List.mem_append_left _ hp)).1
  obtain ⟨vs, hv⟩ := hf
  have JA : PySem.W.InstAt s.heap a oe D none := by
    obtain ⟨oc, od, oda, osl⟩ := oe
    obtain ⟨h1, h2, _⟩ := hz
    cases (show oc = _ from h1)
    cases (show od = _ from h2)
    cases (show oda = _ from hv)
    exact ⟨hget, rfl, rfl, trivial⟩
  have kx := PySem.W.handS_kitx_exc (x := a) (ox := oe) C.hg C.hk C.hs C.hd C.ha C.hn C.ht C.hm
  exact PySem.W.kia_one kx J.kIn JA e (fun z => nomatch z) fun tk => ⟨.bl b, H0, J.kept (t' := tk) fun _ _ z => z, rfl, q⟩
def eIsE (i : Nat) (b : Bool) : Env B → R D := fun ρ => match ρ[i]? with
  | some (.obj _) => .ok (.bool b)
  | _ => .stuck
end
section
variable {X : Cx} {pos : Pos}
theorem de_isE {a D : Addr} {c : Ctx (excB a)} {i : Nat} {x y : Str} {oe : Obj} {b : Bool} {t : V} {cv : Value} {p px py : Pos} (C : ExcC X.K D) (hp : (a, oe) ∈ X.pn) (hz : L2N.Zn (.ref D) none oe) (hf : ∃ vs, oe.data = .fields vs) (hm : X.mg "isinstance" = none)
    (hT : PE X (.Name y py) (tC t)) (hcv : ∀ u, RelV t u → u = cv) (hk : PySem.W.kitOne X.K (.ref D) cv = some b) (hN : X.N[i]? = some x) (hv : Vis X.env.scope x) (hg : Gl X "isinstance" := by rfl) (hd : (x == ("__debug__" : Str)) = false := by decide) (hcd : (x == ("__classdict__" : Str)) = false := by decide)
    (hs : starEach [.Name x px, .Name y py] X.env = (false, eval (.Name x px) X.env) :: starEach [.Name y py] X.env := by rfl) (hs2 : starEach [.Name y py] X.env = (false, eval (.Name y py) X.env) :: starEach [] X.env := by rfl) (hpl : (backTo pos (starEach [.Name y py] X.env)).any (·.1) = false := by rfl) :
    DE X c (.Call (.Name "isinstance" p) [.Name x px, .Name y py] [] pos) (eIsE i b) := by
  refine ⟨PE.imp (pe_callB (call_isX C hp hz hf) hg hm boot_isiB (pa_cons (pe_var hN hv hd hcd) (pa_cons hT pa_nil hs2) hs) (he := hs) (hpl := hpl)) fun σ H Q ⟨I, M, ρ, e, q⟩ => ?_⟩
  unfold eIsE at q
  split at q
  · rename_i z hi
    obtain ⟨v, hv, r⟩ := e.slots i _ hi
    cases (show v = .ref a from r)
    exact ⟨_, hv, t, cv, b, rfl, hcv, hk, q _ H M .refl e (.bl b)⟩
  · exact q.elim
end
section
variable {B : ObjB} {X : Cx} {c : Ctx B} {pos : Pos}
/-! ### a text once or not at all -/
def dMulS : D → D → R D
  | .str x, .int k => if 0 ≤ k ∧ k ≤ 60 ∧ x.length ≤ 60 then .ok (.str (PySem.Txt.mul x k)) else .stuck
  | _, _ => .stuck
abbrev rMulS : R2 := fun x y H Q => ∃ i k, x = .str i ∧ y = .int k ∧ (0 ≤ k ∧ k ≤ 60 ∧ i.length ≤ 60) ∧ Q (.str (PySem.Txt.mul i k)) H
theorem op_mulS : OpR X (binaryOp .Mult) rMulS := by
  intro pins s σ H x y u u' Q I rx ry h
  obtain ⟨i, k, rfl, rfl, hk, q⟩ := h
  obtain ⟨t1, rfl⟩ := rx
  obtain ⟨t2, rfl⟩ := ry
  refine PySem.SB.mul ⟨?_, fun h1 h2 => ?_, fun h1 h2 => ?_⟩ fun t' tk => ⟨.str _, H, I.kept (t' := tk) fun _ _ z => z, ⟨t', rfl⟩, q⟩
  · have h1 : ¬ k < -(2 ^ 63 : Int) := by omega
    have h2 : ¬ k ≥ 2 ^ 63 := by omega
    simp [h1, h2]
    omega
  · have h3 : (153722867280912930 : Int) ≤ (2 ^ 63 - 1) / k := (Int.le_ediv_iff_mul_le (by omega)).mpr (by omega)
    omega
  · have h3 : i.length * k.toNat ≤ 60 * 60 := Nat.mul_le_mul hk.2.2 (by omega)
    have h4 : ¬ i.length * k.toNat > sizeLine := by have : (3600 : Nat) ≤ sizeLine := by decide
                                                    omega
    simp [PySem.Builtin.Str.tooLong, h4]
theorem ok_mulS {K : PySem.W.Frag} : Ok2 K rMulS dMulS := by
  intro M H v w dv dw d Q k rv rw' h q
  unfold dMulS at h
  split at h
  · cases rv; cases rw'
    split at h
    · rename_i hk
      cases h
      exact ⟨_, _, rfl, rfl, hk, q _ _ _ (.refl k) (.str _)⟩
    · cases h
  · cases h
theorem de_mulS {a b : Expr} {f g : Env B → R D} (ha : DE X c a f) (hb : DE X c b g) : DE X c (.BinOp a .Mult b pos) (e2 dMulS f g) := de_2 (fun h1 h2 => pe_op op_mulS h1 h2) ok_mulS ha hb
end

/-! ### a def that is called with the caught error -/
structure GoodM {B : ObjB} (X : Cx) (c : Ctx B) : Prop where
  K : c.K = X.K
  nd : X.N.Nodup
structure FnX (P : Program) (w : World) (K : PySem.W.Frag) (mg : Str → Option Value) (base : Heap) (x : Str) (k : Nat) (Da : Addr) (z : Str) : Prop where
  ex : ∃ f fd y, mg x = some (.ref f) ∧ PySem.W.keepIn K (.ref f) = true ∧ Binds K fd [y] [] ∧ ∀ (A : Around) (outer : List PySem.Env) (s : Shared) (H : Hp) (args : Args) (u : Value) (Q : VK) (E : XK) (p : Addr × Obj), L2H.RoomH k A → L2H.Hot1 A p → L2H.PinOk outer H s p →
    L2N.Zn (.ref Da) none p.2 → (∃ vs, p.2.data = .fields vs) → Env0 P w K mg base A outer s H → BindsTo s fd args [(y, u)] → RelV (.ref p.1) u → (∀ H', Same H H' → Q (.str z) H') → codeAny (model P w) A (.call (.ref f) args) (CR (L2N.CX P w) outer P w H s Q E) s
abbrev cxX (P : Program) (w : World) (K : PySem.W.Frag) (mg : Str → Option Value) (base : Heap) (N : List Str) (qual : Str) (scope : Scope) (f : Addr) (cd : Value) (A : Around) (outer : List PySem.Env) (s : Shared) (H : Hp) (E : XK) (p : Addr × Obj) : Cx :=
  L2H.cxH (L2N.CX P w) P w K mg base N qual scope f cd A outer s H E p
def startX (a : Addr) (n : Nat) : L2.St := some (.ref a) :: List.replicate (n - 1) none
def startXE (a : Addr) (n : Nat) : Env (excB a) := .obj () :: List.replicate (n - 1) .no
theorem startX_env {K : PySem.W.Frag} {a : Addr} {H : Hp} (n : Nat) : EnvR K ⟨fun _ => none, H, false⟩ (fun _ => none) H (startX a n) (startXE a n) where
  len := by unfold startX startXE; simp
  ent := .refl
  msub := Same.refl _
  mok := fun a o h => by cases h
  mnew := fun a o h n => by cases h
  slots := fun i s h => by
    unfold startXE at h
    cases i with
    | zero => cases h; exact ⟨_, rfl, rfl⟩
    | succ i =>
      have h' : (List.replicate (n - 1) (Slot.no : Slot (excB a)))[i]? = some s := h
      rw [List.getElem?_replicate] at h'
      split at h' <;> cases h'
      trivial
  apart := fun i j ds es hne h1 h2 => by
    unfold startXE at h1
    cases i with
    | zero => cases h1
    | succ i =>
      have h' : (List.replicate (n - 1) (Slot.no : Slot (excB a)))[i]? = some (.own ds) := h1
      rw [List.getElem?_replicate] at h'
      split at h' <;> cases h'
theorem fnx_mk {P : Program} {w : World} {K : PySem.W.Frag} {mg : Str → Option Value} {base : Heap} {cA : Nat → Addr} {x qual y : Str} {params : Arguments} {body : List Stmt} {scope : Scope} {kws : List (Str × V)} {f : Addr} {fd : FuncData} {N : List Str} {k : Nat} {Da : Addr} {z : Str}
    {g : (a : Addr) → GS (excB a)} (FD : FunD K x qual params body scope [] kws f fd) (S : FnScope N [y] scope) (hb : Binds K fd [y] []) (gx : mg x = some (.ref f))
    (hbody : ∀ (cdv : Value) (A : Around) (outer : List PySem.Env) (s : Shared) (H : Hp) (E : XK) (p : Addr × Obj), L2N.Zn (.ref Da) none p.2 → (∃ vs, p.2.data = .fields vs) → GoodM (B := excB p.1) (cxX P w K mg base N qual scope f cdv A outer s H E p) ⟨K, cA, E⟩ → DSs (cxX P w K mg base N qual scope f cdv A outer s H E p) ⟨K, cA, E⟩ body (g p.1))
    (hg : ∀ a, ∃ ρ, g a (startXE a N.length) = .ok (.rt (.str z), ρ)) : FnX P w K mg base x (k + 1) Da z := by
  refine ⟨f, fd, y, gx, FD.kp, hb, fun A outer s H args u Q E p hr hot hpin hz hfs e0 hbn ru hq => ?_⟩
  obtain ⟨oc, od, dV, kV, doc, pm, an, cdv, ct, osl, rfl, lk, hcd, _, _⟩ := FD.ex
  have kin : K.In s.heap := e0.mod.kin.keeps fun b o e => (e0.bs b o e).1
  have nol : s.heap.NoLimit := e0.mod.nolimit.keeps fun b o e => (e0.bs b o e).1
  have hkd : ∀ q ∈ [(y, u)], scope.names.lookup q.1 = some .local ∨ (scope.names.lookup q.1 = some .cell ∧ ((cellsFrom (s.heap.objs.size + 1) scope.names []).lookup q.1).isSome = true) := fun q hq => by
    rw [List.mem_singleton] at hq
    subst hq
    exact (S.par y (List.mem_singleton.mpr rfl)).imp id fun h => ⟨h, PySem.W.cellsFrom_some _ _ _ (.inl h)⟩
  refine codeAny_call_function hr.depth (kin _ _ lk) rfl S.co S.gen rfl (PySem.W.codeRec_of kin hcd) (hbn _ _ _ _ ?_)
  refine wpAny_newFunctionEnv_cells S.kind hkd fun env he s1 xc => ?_
  subst he
  refine ⟨nol.keeps xc.toInCall.keep, codeAny_func ?_⟩
  have J : Inv (cxX P w K mg base N qual scope f cdv A outer s H E p) [] (L2.start N [.ref p.1]) H s1 := L2H.inv_startH (ps := [y]) (us := [u]) S hpin e0 rfl (.cons ru .nil) xc
  obtain ⟨ρ, hρ⟩ := hg p.1
  have st : L2.start N [V.ref p.1] = startX p.1 N.length := rfl
  have q0 : tDS ⟨K, cA, E⟩ (g p.1) { nx := fun _ H' => Q .non H', rt := Q } (L2.start N [.ref p.1]) H := by
    rw [st]
    refine ⟨_, _, _, startX_env N.length, ?_⟩
    rw [hρ]
    intro v σ' H' M' sm e' r
    cases r
    exact hq H' e'.ent.same
  refine wpAny_mono ((hbody cdv A outer s H E p hz hfs ⟨rfl, S.nd⟩).pss.run [] s1 _ H _ J q0) (fun fl s' hs => ?_) fun e s' hs => hs
  cases fl with
  | ret u =>
    obtain ⟨v, σ', H', J', rv, q⟩ := hs
    exact ⟨v, H', J'.os, J'.bare, J'.base, J'.hok, rv, q⟩
  | next =>
    obtain ⟨σ', H', J', q⟩ := hs
    exact ⟨V.non, H', J'.os, J'.bare, J'.base, J'.hok, rfl, q⟩
  | brk =>
    obtain ⟨_, _, _, q⟩ := hs
    exact q.elim
  | cont =>
    obtain ⟨_, _, _, q⟩ := hs
    exact q.elim
/-- the call, in the except suite -/
theorem pe_callX {X : Cx} {x y : Str} {k : Nat} {Da : Addr} {z : Str} {p : Addr × Obj} {i : Nat} {q py pos : Pos} (F : FnX X.prog X.w X.K X.mg X.base x k Da z) (hr : L2H.RoomH k X.A) (hot : L2H.Hot1 X.A p) (hp : p ∈ X.pn) (hz : L2N.Zn (.ref Da) none p.2) (hf : ∃ vs, p.2.data = .fields vs) (hx : ∀ (pins : List (Addr × Obj)) (σ : L2.St) (H : Hp) (s : Shared) (e : Value) (s' : Shared), Inv X pins σ H s → L2N.CX X.prog X.w X.stack H s (fun _ _ _ => False) e s' → X.xe e s')
    (hN : X.N[i]? = some y) (hv : Vis X.env.scope y) (hg : Gl X x := by rfl) (hdb : (x == ("__debug__" : Str)) = false := by decide) (hd : (y == ("__debug__" : Str)) = false := by decide) (hcd : (y == ("__classdict__" : Str)) = false := by decide)
    (he : starEach [.Name y py] X.env = (false, eval (.Name y py) X.env) :: starEach [] X.env := by rfl) (hpl : (backTo pos (starEach [] X.env)).any (·.1) = false := by rfl) :
    PE X (.Call (.Name x q) [.Name y py] [] pos) (fun σ H Q => σ[i]? = some (some (.ref p.1)) ∧ ∀ H', Same H H' → Q (.str z) H') := by
  refine ⟨fun pins s σ H Q J h => ?_⟩
  obtain ⟨f, fd, yy, hm, hk, hb, run⟩ := F.ex
  refine wpAny_Call_Name_kw (ld_glob J hg hm ?_ hdb)
  have ha : PA X [.Name y py] (tCons (tVar i) tNil) := pa_cons (pe_var hN hv hd hcd) pa_nil he
  refine PySem.W.callWith_K (h₀ := X.base) J.ok.mod.kin hk (thn (ha.run pos pins s σ H (fun vs H1 => vs = [V.ref p.1] ∧ H1 = H) J ⟨_, h.1, rfl, rfl⟩) fun us s1 ⟨vs, H1, I1, r, ev, eH⟩ => ⟨I1.kIn, ?_⟩) he hpl
  subst ev
  subst eH
  obtain ⟨u, rfl, ru⟩ : ∃ u, us = [u] ∧ RelV (.ref p.1) u := by
    cases r with
    | cons r0 r1 => cases r1; exact ⟨_, rfl, r0⟩
  have b := hb s1 [u] I1.kIn rfl
  rw [List.append_nil] at b
  have P1 := I1.pin p (List.mem_append_left _ hp)
  have pok : L2H.PinOk X.stack H1 s1 p := ⟨P1.1, P1.2.1, fun hm => (List.mem_cons.mp (I1.stkSub p.1 hm)).elim P1.2.2.1 P1.2.2.2.1, P1.2.2.2.2⟩
  refine wpAny_call (codeAny_mono (run X.A X.stack s1 H1 ⟨[u], []⟩ u Q (fun _ _ _ => False) p hr hot pok hz hf I1.env0 b ru h.2) fun r s' hq => ?_)
  cases r with
  | error e => exact hx pins σ H1 s1 e s' I1 hq
  | ok fl =>
    cases fl with
    | ret u => exact I1.after hq
    | next => exact hq.elim
    | brk => exact hq.elim
    | cont => exact hq.elim
end PL

set_option Elab.async false
set_option linter.all false
set_option maxRecDepth 100000
set_option maxHeartbeats 4000000
/-! a def: try .., except PanError, return -/
namespace PL
open PySem PySem.Spec PyProof.Rows L2
section
variable {P : Program} {w : World} {K : PySem.W.Frag} {mg : Str → Option Value} {base : Heap} {cA : Nat → Addr}
def tryF (n : Nat) (g : GS noObj) (hd : Nat → Option D) (dd : D) : List D → R D := fun ds => match g (startE n ds) with
  | .ok (.nx, _) => .ok dd
  | .ok _ => .stuck
  | .exc m => match hd m with
    | some d => .ok d
    | none => .stuck
  | .stuck => .stuck
/-- plain values stand for themselves -/
def plainV : D → Option V
  | .bool b => some (.bl b)
  | .str x => some (.str x)
  | _ => none
theorem plainV_rep {d : D} {v : V} (h : plainV d = some v) (M : Hp) : Rep K M v d := by
  unfold plainV at h
  split at h
  · cases h; exact .bl _
  · cases h; exact .str _
  · cases h
def tSuite (cA : Nat → Addr) (hd : Nat → Option D) (i : Nat) (a : Addr) (cls : Value) (d : Option Addr) : TS := fun Dn σ H => ∃ n r v, cls = .ref (cA n) ∧ d = none ∧ hd n = some r ∧ plainV r = some v ∧ σ[i]? = some (some (.ref a)) ∧ ∀ H', Same H H' → Dn.rt v H'
theorem df_try {x qual y : Str} {params : Arguments} {body tb : List Stmt} {scope : Scope} {kws : List (Str × V)} {f pE : Addr} {fd : FuncData} {N ps : List Str} {k i : Nat} {g : GS noObj} {e ed : Expr} {np p1 p2 p3 p4 : Pos} {hd : Nat → Option D} {dd : D} {vd : V}
    (FD : FunD K x qual params body scope [] kws f fd) (S : FnScope N ps scope) (hb : Binds K fd ps []) (gx : mg x = some (.ref f))
    (eb : body = [.Try tb [.ExceptHandler (some (.Name "PanError" np)) (some y) [.Return (some e) p1] p2] [] [] p3, .Return (some ed) p4]) (hi : N[i]? = some y) (hy : scope.names.lookup y = some .local) (hg : mg "PanError" = some (.ref pE)) 
    (hG : ∀ (cdv : Value) (A : Around) (outer : List PySem.Env) (s : Shared) (H : Hp) (E : XK), Gl (bodyC P w K mg base N qual scope f cdv A outer s H E) "PanError")
    (hk : ∀ (cdv : Value) (A : Around) (outer : List PySem.Env) (s : Shared) (H : Hp) (E : XK), (bodyC P w K mg base N qual scope f cdv A outer s H E).env.kindOf y = some .local)
    (hm : ∀ m r, hd m = some r → PySem.W.exmOne K (.ref (cA m)) (.ref pE) = some true)
    (hpl : ∀ m r, hd m = some r → ∃ v, plainV r = some v)
    (hbody : ∀ (cdv : Value) (A : Around) (outer : List PySem.Env) (s : Shared) (H : Hp) (E E' : XK) (pn : List (Addr × Obj)) (xe : Value → Shared → Prop), GoodS (B := noObj) ((bodyC P w K mg base N qual scope f cdv A outer s H E).tr pn xe) ⟨K, cA, E'⟩ k →
      DSs ((bodyC P w K mg base N qual scope f cdv A outer s H E).tr pn xe) ⟨K, cA, E'⟩ tb g)
    (hsu : ∀ (cdv : Value) (A : Around) (outer : List PySem.Env) (s : Shared) (H : Hp) (E : XK) (n : Nat) (r : D) (v : V) (a : Addr) (oe : Obj) (pn : List (Addr × Obj)), Room k (A.deeper (envOfC qual scope s.heap.objs.size f cdv)) → hd n = some r → plainV r = some v → L2N.Zn (.ref (cA n)) none oe → (∃ vs, oe.data = .fields vs) →
      PE ((bodyC P w K mg base N qual scope f cdv A outer s H E).suite a ((a, oe) :: pn)) e (fun σ H Q => σ[i]? = some (some (.ref a)) ∧ ∀ H', Same H H' → Q v H'))
    (hd0 : plainV dd = some vd) (hed : ∀ (cdv : Value) (A : Around) (outer : List PySem.Env) (s : Shared) (H : Hp) (E : XK), PE (bodyC P w K mg base N qual scope f cdv A outer s H E) ed (tC vd)) :
    Df P w K mg base cA x (k + 1) ps.length (tryF N.length g hd dd) := by
  refine ⟨f, fd, ps, rfl, FD.ok S (fun vs H Q E h => h.1) (fun cdv A outer s H vs Q E hr ⟨hl, M, ds, mk, r, h⟩ => ⟨_, eb ▸ pss_cons (L2N.ps_try_as (c := .ref pE) (Wout := fun _ _ _ _ => False) (tb := fun W => tDS ⟨K, cA, fun cls d H => ∀ σ : L2.St, σ.length = N.length → W cls d σ H⟩ g) (ts := tSuite cA hd i)
    rfl rfl S.nd hi (hk cdv A outer s H E) ⟨hG cdv A outer s H E, by decide, .inl hg⟩ (fun _ _ ⟨_, _, _, _, _, _, _, _, _, _, _, _, _, _, _, _, w⟩ => w.elim) ?hB ?hS) (pss_one (ps_ret (hed cdv A outer s H E))), ?hQ⟩), gx, FD.kp, hb⟩
  case hB =>
    intro W pn xe tk po
    have tk' : L2N.Takes ((bodyC P w K mg base N qual scope f cdv A outer s H E).tr pn xe) (fun cls d _ H => ∀ σ : L2.St, σ.length = N.length → W cls d σ H) := fun u s' ⟨a, B, sI, pins, σ, H, cls, d, e, J, nb, up, sky, na, os, ag, w⟩ => tk u s' ⟨a, B, sI, pins, σ, H, cls, d, e, J, nb, up, sky, na, os, ag, w σ J.len⟩
    exact (hbody cdv A outer s H E _ pn xe { K := rfl, nd := S.nd, calm := rfl, room := hr, pass := L2N.passes_call tk' fun _ _ _ _ h => h, own := po, takes := tk' }).pss
  case hS =>
    intro a oe cls d pn hz hf
    refine pss_one ⟨fun pins s1 τ H1 Dn J ⟨n, r, v, ec, en, hn, hv, hs, hq⟩ => ?_⟩
    subst ec; subst en
    exact (ps_ret (hsu cdv A outer s H E n r v a oe pn hr hn hv hz hf)).run pins s1 τ H1 Dn J ⟨hs, hq⟩
  case hQ =>
    refine ⟨⟨M, H, false⟩, M, startE N.length ds, startE_env mk r, ?_⟩
    unfold tryF at h
    cases hg : g (startE N.length ds) with
    | ok res =>
      rw [hg] at h
      obtain ⟨fl, ρ'⟩ := res
      cases fl with
      | nx =>
        intro σ' H' M' sm e'
        exact (show ∀ v H' M', Grow M H M' H' → Rep K M' v dd → Q v H' from h) vd H' M' e'.growth (plainV_rep hd0 M')
      | bk => exact h.elim
      | ct => exact h.elim
      | rt d => exact h.elim
      | rtL xs => exact h.elim
    | exc m =>
      rw [hg] at h
      cases hh : hd m with
      | none => dsimp only at h; rw [hh] at h; exact h.elim
      | some d =>
        dsimp only at h; rw [hh] at h
        obtain ⟨v, hv⟩ := hpl m d hh
        intro H' kp σ hσ
        refine ⟨true, hm m d hh, fun _ a ha => ?_, fun z => by cases z⟩
        have hlt : i < σ.length := by
          rw [hσ]
          exact (List.getElem?_eq_some_iff.mp hi).1
        refine ⟨m, d, v, rfl, rfl, hh, hv, by rw [List.getElem?_set_self hlt], fun H2 s2 => ?_⟩
        have s1 : Same H H2 := kp.same.trans s2
        exact (show ∀ v H' M', Grow M H M' H' → Rep K M' v d → Q v H' from h) v H2 M ⟨s1, Same.refl _, fun b o z => ⟨s1 _ _ (mk b o z).1, (mk b o z).2⟩, fun b o z n => by rw [z] at n; cases n⟩ (plainV_rep hv M)
    | stuck => rw [hg] at h; exact h.elim
end
/-! ### the classes of errors, the words -/
def exN : Nat → Option Str
  | 1 => some "BadCount"
  | 2 => some "BadCases"
  | 3 => some "BadDone"
  | _ => none
def wordX (x : Str) : Str := if x = "BadCount" then "count value" else if x = "BadCases" then "cases value" else "done value"
theorem exN_mem {m : Nat} {x : Str} (h : exN m = some x) : x ∈ [("BadCount" : Str), "BadCases", "BadDone"] := by
  unfold exN at h
  split at h <;> cases h <;> decide
structure FactsX (K : PySem.W.Frag) (mg : Str → Option Value) (fa : List He.Fa) (fn : List He.DefD) (ex : PySem.W.Frag → Bool) : Prop extends Facts K mg fa fn where
  ex : ex K = true
theorem boot_VE : bootBuiltins "ValueError" = some (.type "ValueError") := by decide +kernel
/-- the suites: return f(e); return f(e) == 'word' -/
theorem suite_no {P : Program} {w : World} {X : Cx} (pins : List (Addr × Obj)) (σ : L2.St) (H : Hp) (s : Shared) (e : Value) (s' : Shared) (_ : Inv X pins σ H s) (h : L2N.CX P w X.stack H s (fun _ _ _ => False) e s') : False := by
  obtain ⟨_, _, _, _, _, _, _, _, _, _, _, _, z⟩ := h
  exact z
def hdW (m : Nat) : Option D := (exN m).map fun x => .str (wordX x)
def hdE (z : Str) (m : Nat) : Option D := (exN m).map fun x => .bool (decide (V.str (wordX x) = V.str z))
theorem hdW_some {m : Nat} {r : D} (h : hdW m = some r) : ∃ x, exN m = some x ∧ r = .str (wordX x) := by
  unfold hdW at h
  obtain ⟨x, hx, e⟩ := Option.map_eq_some_iff.mp h
  exact ⟨x, hx, e.symm⟩
theorem hdE_some {z : Str} {m : Nat} {r : D} (h : hdE z m = some r) : ∃ x, exN m = some x ∧ r = .bool (decide (V.str (wordX x) = V.str z)) := by
  unfold hdE at h
  obtain ⟨x, hx, e⟩ := Option.map_eq_some_iff.mp h
  exact ⟨x, hx, e.symm⟩
theorem pe_eqW {X : Cx} {e : Expr} {i j : Nat} {a : Addr} {x z : Str} {p1 pos : Pos} (h : PE X e (fun σ H Q => σ[i]? = some (some (.ref a)) ∧ ∀ H', Same H H' → Q (.str (wordX x)) H')) :
    PE X (.Compare e [.Eq] [.Constant (.str z) j p1] pos) (fun σ H Q => σ[i]? = some (some (.ref a)) ∧ ∀ H', Same H H' → Q (.bl (decide (V.str (wordX x) = V.str z))) H') :=
  PE.imp (pe_cmpR op_eq h pe_str (nomark _)) fun σ H Q ⟨h1, h2⟩ => ⟨h1, fun H' s => ⟨rfl, h2 H' s⟩⟩
end PL

set_option Elab.async false
set_option linter.all false
set_option maxRecDepth 100000
set_option maxHeartbeats 4000000
/-! plain: laws of the combinators' values -/
namespace PL
open PySem

/-! ### data without truth values: equal is equal -/
mutual
def exact : D → Bool
  | .bool _ => false
  | .dict _ => false
  | .list xs => exacts xs
  | .tuple xs => exacts xs
  | _ => true
def exacts : List D → Bool
  | [] => true
  | x :: xs => exact x && exacts xs
end
mutual
theorem eqv_exact : ∀ (x y : D), exact x = true → exact y = true → (PyData.eqv x y = true ↔ x = y)
  | .none, y, _, hy => by cases y <;> simp [PyData.eqv, exact] at *
  | .bool _, y, hx, _ => by simp [exact] at hx
  | .int i, y, _, hy => by cases y <;> simp [PyData.eqv, exact] at *
  | .str s, y, _, hy => by cases y <;> simp [PyData.eqv, exact] at *
  | .list xs, y, hx, hy => by
    cases y with
    | list ys => rw [PyData.eqv, eqvs_exact xs ys (by simpa [exact] using hx) (by simpa [exact] using hy), PyData.list.injEq]
    | _ => simp [PyData.eqv]
  | .tuple xs, y, hx, hy => by
    cases y with
    | tuple ys => rw [PyData.eqv, eqvs_exact xs ys (by simpa [exact] using hx) (by simpa [exact] using hy), PyData.tuple.injEq]
    | _ => simp [PyData.eqv]
  | .dict _, y, hx, _ => by simp [exact] at hx
theorem eqvs_exact : ∀ (xs ys : List D), exacts xs = true → exacts ys = true → (PyData.eqvAll xs ys = true ↔ xs = ys)
  | [], [], _, _ => by simp [PyData.eqvAll]
  | [], _ :: _, _, _ => by simp [PyData.eqvAll]
  | _ :: _, [], _, _ => by simp [PyData.eqvAll]
  | x :: xs, y :: ys, hx, hy => by
    simp only [exacts, Bool.and_eq_true] at hx hy
    rw [PyData.eqvAll, Bool.and_eq_true, eqv_exact x y hx.1 hy.1, eqvs_exact xs ys hx.2 hy.2, List.cons.injEq]
end
theorem exacts_iff : ∀ {xs : List D}, exacts xs = true ↔ ∀ x ∈ xs, exact x = true
  | [] => by simp [exacts]
  | x :: xs => by simp [exacts, exacts_iff (xs := xs)]
/-! ### shapes -/
def sh (n : Nat) (d : D) : Prop := d.canLay0 = true ∧ d.depth ≤ n
theorem sh_up {n m : Nat} {d : D} (h : sh n d) (k : n ≤ m) : sh m d := ⟨h.1, Nat.le_trans h.2 k⟩
theorem shaped_sh {n : Nat} {d : D} (h : sh n d) (k : n ≤ 64 := by decide) : SeqAt.shaped d = true := by
  unfold SeqAt.shaped
  rw [h.1, Bool.true_and, decide_eq_true_eq]
  exact Nat.le_trans h.2 k
theorem sh_of_shaped {d : D} (h : SeqAt.shaped d = true) : sh 64 d := ⟨SeqAt.canLay_of_shaped h, SeqAt.depth_of_shaped h⟩
theorem canAll_iff : ∀ {xs : List D}, PyData.canLayAll0 xs = true ↔ ∀ x ∈ xs, x.canLay0 = true
  | [] => by simp [PyData.canLayAll0]
  | x :: xs => by simp [PyData.canLayAll0, canAll_iff (xs := xs)]
theorem depthAll_le {n : Nat} : ∀ {xs : List D}, (∀ x ∈ xs, x.depth ≤ n) → PyData.depthAll xs ≤ n
  | [], _ => by simp [PyData.depthAll]
  | x :: xs, h => by
    simp only [PyData.depthAll, Nat.max_le]
    exact ⟨h x (List.mem_cons_self ..), depthAll_le fun y hy => h y (List.mem_cons_of_mem _ hy)⟩
theorem depthAll_ge {n : Nat} : ∀ {xs : List D}, PyData.depthAll xs ≤ n → ∀ x ∈ xs, x.depth ≤ n
  | [], _, x, hx => by simp at hx
  | y :: xs, h, x, hx => by
    simp only [PyData.depthAll, Nat.max_le] at h
    rcases List.mem_cons.mp hx with rfl | hx
    · exact h.1
    · exact depthAll_ge h.2 x hx
theorem sh_list {n : Nat} {xs : List D} (h : ∀ x ∈ xs, sh n x) : sh (n + 1) (.list xs) := by
  refine ⟨by rw [PyData.canLay0]; exact canAll_iff.mpr fun x hx => (h x hx).1, ?_⟩
  rw [PyData.depth]
  exact Nat.succ_le_succ (depthAll_le fun x hx => (h x hx).2)
theorem sh_tuple {n : Nat} {xs : List D} (h : ∀ x ∈ xs, sh n x) : sh (n + 1) (.tuple xs) := by
  refine ⟨by rw [PyData.canLay0]; exact canAll_iff.mpr fun x hx => (h x hx).1, ?_⟩
  rw [PyData.depth]
  exact Nat.succ_le_succ (depthAll_le fun x hx => (h x hx).2)
theorem sh_of_list {n : Nat} {xs : List D} (h : sh (n + 1) (.list xs)) : ∀ x ∈ xs, sh n x := fun x hx => by
  obtain ⟨h1, h2⟩ := h
  rw [PyData.canLay0] at h1
  rw [PyData.depth] at h2
  exact ⟨canAll_iff.mp h1 x hx, depthAll_ge (Nat.le_of_succ_le_succ h2) x hx⟩
theorem sh_of_tuple {n : Nat} {xs : List D} (h : sh (n + 1) (.tuple xs)) : ∀ x ∈ xs, sh n x := fun x hx => by
  obtain ⟨h1, h2⟩ := h
  rw [PyData.canLay0] at h1
  rw [PyData.depth] at h2
  exact ⟨canAll_iff.mp h1 x hx, depthAll_ge (Nat.le_of_succ_le_succ h2) x hx⟩
theorem sh_int {n : Nat} (i : Int) : sh n (.int i) := ⟨rfl, Nat.zero_le _⟩
theorem sh_bool {n : Nat} (i : Bool) : sh n (.bool i) := ⟨rfl, Nat.zero_le _⟩
theorem sh_none {n : Nat} : sh n .none := ⟨rfl, Nat.zero_le _⟩
theorem sh_str {n : Nat} {x : Str} (h : PyData.canLay0 (.str x) = true) : sh n (.str x) := ⟨h, Nat.zero_le _⟩
theorem sh_ints {n : Nat} (l : List Int) : ∀ x ∈ l.map PyData.int, sh n x := fun x hx => by
  obtain ⟨i, _, rfl⟩ := List.mem_map.mp hx
  exact sh_int i
theorem exact_ints (l : List Int) : exacts (l.map PyData.int) = true := exacts_iff.mpr fun x hx => by
  obtain ⟨i, _, rfl⟩ := List.mem_map.mp hx
  rfl
theorem map_int_inj {a b : List Int} : a.map PyData.int = b.map PyData.int ↔ a = b :=
  ⟨fun h => (List.map_inj_right fun x y e => PyData.int.inj e).mp h, fun h => by rw [h]⟩
/-- == -/
theorem dEq_sh {n m : Nat} {x y : D} (hx : sh n x) (hy : sh m y) (k : n ≤ 64 := by decide) (k' : m ≤ 64 := by decide) : dEq x y = .ok (.bool (PyData.eqv x y)) := by
  unfold dEq
  rw [shaped_sh hx k, shaped_sh hy k']
  rfl
theorem dNe_sh {n m : Nat} {x y : D} (hx : sh n x) (hy : sh m y) (k : n ≤ 64 := by decide) (k' : m ≤ 64 := by decide) : dNe x y = .ok (.bool (!PyData.eqv x y)) := by
  unfold dNe
  rw [shaped_sh hx k, shaped_sh hy k']
  rfl
theorem dEq_ex {n m : Nat} {x y : D} (hx : sh n x) (hy : sh m y) (ex : exact x = true) (ey : exact y = true) {b : Bool} (hb : b = true ↔ x = y) (k : n ≤ 64 := by decide) (k' : m ≤ 64 := by decide) : dEq x y = .ok (.bool b) := by
  rw [dEq_sh hx hy k k']
  have e : PyData.eqv x y = b := by rw [Bool.eq_iff_iff, eqv_exact x y ex ey, hb]
  rw [e]
theorem dNe_ex {n m : Nat} {x y : D} (hx : sh n x) (hy : sh m y) (ex : exact x = true) (ey : exact y = true) {b : Bool} (hb : b = true ↔ x = y) (k : n ≤ 64 := by decide) (k' : m ≤ 64 := by decide) : dNe x y = .ok (.bool (!b)) := by
  rw [dNe_sh hx hy k k']
  have e : PyData.eqv x y = b := by rw [Bool.eq_iff_iff, eqv_exact x y ex ey, hb]
  rw [e]
theorem dEq_int (i j : Int) : dEq (.int i) (.int j) = .ok (.bool (decide (i = j))) := by
  rw [dEq_sh (n := 0) (m := 0) (sh_int i) (sh_int j)]
  simp only [PyData.eqv]
  rfl
theorem dNe_int (i j : Int) : dNe (.int i) (.int j) = .ok (.bool (!decide (i = j))) := by
  rw [dNe_sh (n := 0) (m := 0) (sh_int i) (sh_int j)]
  simp only [PyData.eqv]
  rfl
/-! ### isinstance -/
theorem isi_int (t : D) (h : tyD t ≠ none) : dIsi "int" t = .ok (.bool (match t with | .int _ => true | .bool _ => true | _ => false)) := by
  cases t <;> first | rfl | skip
  rename_i kv
  cases kv
  · rfl
  · exact absurd rfl h
theorem isi_bool (t : D) (h : tyD t ≠ none) : dIsi "bool" t = .ok (.bool (match t with | .bool _ => true | _ => false)) := by
  cases t <;> first | rfl | skip
  rename_i kv
  cases kv
  · rfl
  · exact absurd rfl h
theorem isi_tuple (t : D) (h : tyD t ≠ none) : dIsi "tuple" t = .ok (.bool (match t with | .tuple _ => true | _ => false)) := by
  cases t <;> first | rfl | skip
  rename_i kv
  cases kv
  · rfl
  · exact absurd rfl h
theorem isi_list (t : D) (h : tyD t ≠ none) : dIsi "list" t = .ok (.bool (match t with | .list _ => true | _ => false)) := by
  cases t <;> first | rfl | skip
  rename_i kv
  cases kv
  · rfl
  · exact absurd rfl h
theorem ty_of_sh {n : Nat} {t : D} (h : sh n t) : tyD t ≠ none := by
  cases t <;> first | simp [tyD] | skip
  exact absurd h.1 (by simp [PyData.canLay0])
/-! ### blocks -/
theorem eachR_map {α β : Type} {step : α → R (List β)} {f : α → β} : ∀ {xs : List α}, (∀ x ∈ xs, step x = .ok [f x]) → eachR step xs = .ok (xs.map f)
  | [], _ => rfl
  | x :: xs, h => by
    rw [eachR, h x (List.mem_cons_self ..), R.bind_ok, eachR_map fun y hy => h y (List.mem_cons_of_mem _ hy), R.bind_ok]
    rfl
theorem eachR_filter {α β : Type} {step : α → R (List β)} {p : α → Bool} {f : α → β} : ∀ {xs : List α}, (∀ x ∈ xs, step x = .ok (if p x = true then [f x] else [])) → eachR step xs = .ok ((xs.filter p).map f)
  | [], _ => rfl
  | x :: xs, h => by
    rw [eachR, h x (List.mem_cons_self ..), R.bind_ok, eachR_filter (p := p) (f := f) fun y hy => h y (List.mem_cons_of_mem _ hy), R.bind_ok]
    by_cases hp : p x = true <;> simp [hp]
theorem noE_of {α : Type} {r : R α} {a : α} (h : r = .ok a) : noE r = .ok a := by rw [h]; rfl
theorem eachR_mem {α β : Type} {step : α → R (List β)} : ∀ {xs : List α} {ys : List β}, eachR step xs = .ok ys → ∀ x ∈ xs, ∃ o, step x = .ok o
  | [], _, _, x, hx => by simp at hx
  | y :: xs, ys, h, x, hx => by
    rw [eachR] at h
    cases hs : step y with
    | ok o =>
      rw [hs, R.bind_ok] at h
      cases hr : eachR step xs with
      | ok z =>
        rcases List.mem_cons.mp hx with rfl | hx
        · exact ⟨o, hs⟩
        · exact eachR_mem hr x hx
      | exc n => rw [hr, R.bind_exc] at h; cases h
      | stuck => rw [hr, R.bind_stuck] at h; cases h
    | exc n => rw [hs, R.bind_exc] at h; cases h
    | stuck => rw [hs, R.bind_stuck] at h; cases h
/-! ### places -/
theorem dIx_list {xs : List D} {i : Int} {y : D} (h0 : 0 ≤ i) (h : xs[i.toNat]? = some y) : dIx (.list xs) (.int i) = .ok y := by
  have hl : i.toNat < xs.length := (List.getElem?_eq_some_iff.mp h).1
  simp only [dIx, itemsOf, L2.atI, L2.ixN]
  rw [if_pos h0, if_pos (by omega)]
  simp only [Option.bind_some, h]
theorem dIx_tup {xs : List D} {i : Int} {y : D} (h0 : 0 ≤ i) (h : xs[i.toNat]? = some y) : dIx (.tuple xs) (.int i) = .ok y := by
  have hl : i.toNat < xs.length := (List.getElem?_eq_some_iff.mp h).1
  simp only [dIx, itemsOf, L2.atI, L2.ixN]
  rw [if_pos h0, if_pos (by omega)]
  simp only [Option.bind_some, h]
theorem dIx_scr {xs : List D} {i : Int} {y : D} (h0 : 0 ≤ i) (h : xs[i.toNat]? = some y) : dIx (.dict [(.none, .list xs)]) (.int i) = .ok y := by
  have hl : i.toNat < xs.length := (List.getElem?_eq_some_iff.mp h).1
  simp only [dIx, itemsOf, L2.atI, L2.ixN]
  rw [if_pos h0, if_pos (by omega)]
  simp only [Option.bind_some, h]
theorem dIx_t0 (a : D) (r : List D) : dIx (.tuple (a :: r)) (.int 0) = .ok a := dIx_tup (by decide) rfl
theorem dIx_t1 (a b : D) (r : List D) : dIx (.tuple (a :: b :: r)) (.int 1) = .ok b := dIx_tup (by decide) rfl
theorem dIx_l0 (a : D) (r : List D) : dIx (.list (a :: r)) (.int 0) = .ok a := dIx_list (by decide) rfl
theorem dIx_l1 (a b : D) (r : List D) : dIx (.list (a :: b :: r)) (.int 1) = .ok b := dIx_list (by decide) rfl
/-- one of a display, by a number at large -/
def pick (xs : List D) (c k : Int) : D := xs.getD (c % k).toNat .none
theorem dIx_pick {xs : List D} {c k : Int} (hk : (xs.length : Int) = k) (h0 : 0 < k) : dIx (.list xs) (.int (c % k)) = .ok (pick xs c k) := by
  have h1 := Int.emod_nonneg c (show k ≠ 0 by omega)
  have h2 := Int.emod_lt_of_pos c h0
  have hl : (c % k).toNat < xs.length := by omega
  refine dIx_list h1 ?_
  unfold pick
  rw [List.getD_eq_getElem?_getD, List.getElem?_eq_getElem hl]
  rfl
theorem pick_mem {xs : List D} {c k : Int} (hk : (xs.length : Int) = k) (h0 : 0 < k) : pick xs c k ∈ xs := by
  have h1 := Int.emod_nonneg c (show k ≠ 0 by omega)
  have h2 := Int.emod_lt_of_pos c h0
  have hl : (c % k).toNat < xs.length := by omega
  unfold pick
  rw [List.getD_eq_getElem?_getD, List.getElem?_eq_getElem hl]
  exact List.getElem_mem hl
/-- one of a display -/
theorem dIx_mem {xs : List D} {i : Int} (h0 : 0 ≤ i) (h : i < xs.length) : ∃ y ∈ xs, dIx (.list xs) (.int i) = .ok y := by
  have hl : i.toNat < xs.length := by omega
  exact ⟨xs[i.toNat], List.getElem_mem hl, dIx_list h0 (List.getElem?_eq_getElem hl)⟩
end PL

set_option Elab.async false
set_option linter.all false
set_option maxRecDepth 100000
set_option maxHeartbeats 4000000
/-! the end -/
namespace PL
open PySem PySem.Spec PyProof.Rows L2
theorem only_mok {H : Hp} (h : Only H) : MOk H H := fun a o e => by
  refine ⟨e, ?_⟩
  rcases h a with z | ⟨o', xs, z⟩
  · rw [z] at e; cases e
  · rw [z] at e; cases e; rfl
theorem spD_law {K : PySem.W.Frag} {cA : Nat → Addr} {F : List D → R D} {H : Hp} {a : Addr} {ns : List Int} (hO : Only H) (hS : SqL K H a (ns.map V.int)) (hF : F [.dict [(.none, .list (ns.map PyData.int))]] = .ok (.bool true)) :
    spD K cA 1 F [.ref a] H (fun v _ => v = .bl true) (fun _ _ _ => False) := by
  refine ⟨rfl, H, _, only_mok hO, .cons (.scr hS (Reps.of_ints ns)) .nil, ?_⟩
  rw [hF]
  intro v H' M' g r
  cases r
  rfl
/-- from the law's promise to what the head leaves; what may be let out may hang on the world -/
theorem walk_ofX {l : PySem.W.OpenLaw} {k : Nat} {q : Program} {loose : List Str} {XP : (Str → Option Value) → Heap → Prop} {YP : World → Heap → Prop} {d : DefRec} {x : Str} (hn : l.most = some 63) (hdf : d.params.defaults = []) (hr : Room k callerA)
    (F : ∀ (w : World) (mg : Str → Option Value) (f : Addr) (h : Heap), YP w h → h.Ns mainGlobals mg → mg d.name = some (.ref f) → ∃ (K : PySem.W.Frag) (fd : FuncData) (cA : Nat → Addr) (G : List D → R D), K.In h ∧ (∀ (s : Shared) (u : Value), BindsTo s fd ⟨[u], []⟩ [(x, u)]) ∧
      (∀ ns : List Int, G [.dict [(.none, .list (ns.map PyData.int))]] = .ok (.bool true)) ∧ ∀ base : Heap, K.In base → base.Ns mainGlobals mg → FnOk l.prog w K mg base (L2N.CX l.prog w) k f fd [x] (spD K cA 1 G)) :
    PySem.W.WalkO q loose XP YP l.row.toRowW d [] (fun f vs => PySem.call f vs) := by
  refine Att.attach_call hn hdf fun w t0 t1 mg mb f ob pm cd doc a us ns Gv Yv ho hd1 hcd hmg hob hin hlen hgs => ?_
  obtain ⟨K, fd, cA, G, kx, hb, hG, hF⟩ := F w mg f _ Yv Gv.T.g hmg
  refine law_call kx Gv.T.g Gv.T.b Gv.T.builtins Gv.T.nolimit hgs hob hin ?_ hr hF hb ?_ ?_
  · exact Nat.le_trans hlen (by decide)
  · exact fun H hO hS => spD_law hO hS (hG ns)
  · rintro H e s' ⟨_, _, _, _, _, _, _, _, _, _, _, _, z⟩
    exact z
end PL

set_option Elab.async false
set_option linter.all false
set_option maxRecDepth 100000
set_option maxHeartbeats 4000000
/-! str(x) in the law's own def: nothing is being shown there, sys.modules stands apart -/
namespace PL
open PySem PySem.Spec PyProof.Rows L2
/-- what the law's body knows of its caller -/
structure StrOk (X : Cx) : Prop where
  gd : X.A.guards = some []
  sys : ∃ o es ep, X.s_0.heap.get? sysModules = some o ∧ o.data = .dict es ep
  no : X.H_0 sysModules = none
  fs : X.fs = []
  ex : X.ex = []
section
variable {B : ObjB} {X : Cx} {c : Ctx B} {pos : Pos} {K : PySem.W.Frag} {I : Ent} {M H M' H' : Hp} {σ σ' : L2.St} {ρ ρ' : Env B}
theorem StrOk.now {pins : List (Addr × Obj)} {s : Shared} (S : StrOk X) (J : Inv X pins σ H s) : ∃ o es ep, s.heap.get? sysModules = some o ∧ o.data = .dict es ep := by
  obtain ⟨o, es, ep, h1, h2⟩ := S.sys
  exact ⟨o, es, ep, J.base.keep _ _ h1 S.no (by rw [S.fs]; simp) (by rw [S.ex]; simp), h2⟩
mutual
/-- data that may be shown: no script within -/
def showD : D → Bool
  | .dict [] => true
  | .dict (_ :: _) => false
  | .list xs => showDs xs
  | .tuple xs => showDs xs
  | .str x => PyData.strOk x && PyData.strOk (PySem.reprText x)
  | .int i => decide (i.natAbs.log2 < 1920)
  | _ => true
def showDs : List D → Bool
  | [] => true
  | x :: xs => showD x && showDs xs
end
mutual
theorem showD_able : ∀ {d : D}, showD d = true → d.showable = true
  | .none, _ => rfl
  | .bool _, _ => rfl
  | .int i, h => h
  | .str _, _ => rfl
  | .list xs, h => by rw [PyData.showable]; exact showDs_able (by simpa [showD] using h)
  | .tuple xs, h => by rw [PyData.showable]; exact showDs_able (by simpa [showD] using h)
  | .dict [], _ => rfl
  | .dict (_ :: _), h => by cases h
theorem showDs_able : ∀ {ds : List D}, showDs ds = true → PyData.showableAll ds = true
  | [], _ => rfl
  | x :: xs, h => by
    have h2 := He.ba (show (showD x && showDs xs) = true from h)
    rw [PyData.showableAll, showD_able h2.1, showDs_able h2.2]
    rfl
end
mutual
theorem Rep.reads {pins : List (Addr × Obj)} {s : Shared} (J : Inv X pins σ H s) (hs : ∃ o es ep, s.heap.get? sysModules = some o ∧ o.data = .dict es ep) (mk : MOk M H) : ∀ {v : V} {d : D} {u : Value}, showD d = true → Rep X.K M v d → RelV v u → ∃ as, Reads s.heap u d as ∧ sysModules ∉ as
  | _, _, _, _, .non, r => by cases r; exact ⟨_, .none, by simp⟩
  | _, _, _, _, .bl b, r => by cases r; exact ⟨_, .bool b, by simp⟩
  | _, _, _, _, .int i, r => by obtain ⟨t, rfl⟩ := r; exact ⟨_, .int i t, by simp⟩
  | _, _, _, _, .str x, r => by obtain ⟨t, rfl⟩ := r; exact ⟨_, .str x t, by simp⟩
  | _, _, _, e, .lst (a := a) h q, r => by
    cases r
    obtain ⟨its, rv, ⟨o, n, ho, hc, _, hd⟩, _⟩ := J.list (SqL.of (mk.same _ _ h))
    obtain ⟨as, h1, h2⟩ := Reps.readsAll J hs mk (by simpa [showD] using e) q rv
    refine ⟨_, .list ho hc hd h1, fun z => ?_⟩
    rcases List.mem_cons.mp z with z | z
    · obtain ⟨o', es, ep, e1, e2⟩ := hs
      rw [z, ho] at e1
      cases e1
      rw [hd] at e2
      cases e2
    · exact h2 z
  | _, _, _, e, .scr _ _, _ => by simp [showD] at e
  | _, _, _, e, .tup h q, r => by
    cases r
    obtain ⟨its, rv, ⟨o, ho, hc, n, hd⟩, _⟩ := J.tuple (sqT_same mk.same h)
    obtain ⟨as, h1, h2⟩ := Reps.readsAll J hs mk (by simpa [showD] using e) q rv
    exact ⟨_, .tuple ho hc hd h1, h2⟩
  | _, _, _, _, .dic (a := a) h, r => by
    cases r
    obtain ⟨_, hne, vs, kv, o, es, ep, ho, hx, hd, _, hp, _⟩ := J.hok a _ (mk.same _ _ h)
    cases kv
    have e0 : es.toList = [] := by cases hp' : es.toList with
      | nil => rfl
      | cons x r => rw [hp'] at hp; cases hp
    refine ⟨a :: [] ++ [], .dict ho hx.1 hd (by rw [e0]; exact .nil) (by rw [e0]; exact .nil), fun z => ?_⟩
    have z' : sysModules = a := by simpa using z
    rw [← z'] at hne
    exact absurd hne (by decide)
theorem Reps.readsAll {pins : List (Addr × Obj)} {s : Shared} (J : Inv X pins σ H s) (hs : ∃ o es ep, s.heap.get? sysModules = some o ∧ o.data = .dict es ep) (mk : MOk M H) : ∀ {vs : List V} {ds : List D} {us : List Value}, showDs ds = true → Reps X.K M vs ds → Vals vs us → ∃ as, ReadsAll s.heap us ds as ∧ sysModules ∉ as
  | _, _, _, _, .nil, r => by cases r; exact ⟨_, .nil, by simp⟩
  | _, d :: ds, _, e, .cons h t, r => by
    have e' := He.ba (show (showD d && showDs ds) = true from e)
    cases r with
    | cons r1 r2 =>
      obtain ⟨as, q1, n1⟩ := Rep.reads J hs mk e'.1 h r1
      obtain ⟨bs, q2, n2⟩ := Reps.readsAll J hs mk e'.2 t r2
      exact ⟨_, .cons q1 q2, fun z => (List.mem_append.mp z).elim n1 n2⟩
end
/-- str(x) -/
def strOfD : D → Str
  | .str x => x
  | d => d.shown
def dStr : List D → R D
  | [d] => if (showD d && (decide (d.depth ≤ 60) && decide (d.shown.length ≤ 4000000))) = true then .ok (.str (strOfD d)) else .stuck
  | _ => .stuck
def rStrD (K : PySem.W.Frag) : List V → Hp → VK → Prop := fun xs H Q => ∃ M v d, xs = [v] ∧ MOk M H ∧ Rep K M v d ∧ (showD d && (decide (d.depth ≤ 60) && decide (d.shown.length ≤ 4000000))) = true ∧ Q (.str (strOfD d)) H
theorem call_strD {k : Nat} (S : StrOk X) (hr : Room k X.A) : CallR X (.type "str") (rStrD X.K) := by
  intro pins s τ H0 xs us Q J r h
  obtain ⟨M, v, d, rfl, mk, rp, hd, q⟩ := h
  obtain ⟨u, rfl, ru⟩ : ∃ u, us = [u] ∧ RelV v u := by
    cases r with
    | cons r0 r1 => cases r1; exact ⟨_, rfl, r0⟩
  obtain ⟨h1, h2⟩ := He.ba hd
  obtain ⟨h2, h3⟩ := He.ba h2
  have h2 := of_decide_eq_true h2
  have h3 := of_decide_eq_true h3
  have fit : d.shown.length ≤ sizeLine := Nat.le_trans h3 (by decide)
  have byRef : ∀ a : Addr, v = .ref a → strOfD d = d.shown → wpAny (model X.prog X.w) X.A (PySem.call (.type "str") [u]) (EP X pins τ Q) X.xe s := fun a ea es => by
    subst ea
    cases (show u = .ref a from ru)
    obtain ⟨as, rd, ns⟩ := Rep.reads J (S.now J) mk h1 rp rfl
    have hu := hr.un
    refine str_of_reads (h₀ := s.heap) rd (showD_able h1) (fun _ => ns) S.gd (by omega) (fun b o e => e) (fun h' t tk hk => ?_) fit
    exact ⟨.str _, H0, J.kept (t' := tk) hk, ⟨t, by rw [es]⟩, q⟩
  cases rp with
  | non => cases ru; exact PySem.P.str_of_none ⟨.str _, H0, J.tok _, ⟨_, rfl⟩, q⟩
  | bl b => cases ru; exact PySem.P.str_of_bool ⟨.str _, H0, J.tok _, ⟨_, rfl⟩, q⟩
  | int i =>
    obtain ⟨t, rfl⟩ := ru
    exact PySem.P.str_of_int (of_decide_eq_true (show decide (i.natAbs.log2 < 1920) = true from h1)) ⟨.str _, H0, J.tok _, ⟨_, rfl⟩, q⟩
  | str x =>
    obtain ⟨t, rfl⟩ := ru
    exact PySem.P.str_of_str ⟨.str x, H0, J, ⟨t, rfl⟩, q⟩
  | lst hl hq => exact byRef _ rfl rfl
  | scr hl hq => cases h1
  | tup hl hq => exact byRef _ rfl rfl
  | dic hl => exact byRef _ rfl rfl
theorem de_strc {e : Expr} {f : Env B → R (List D)} {p : Pos} {k : Nat} (G : Good X c k) (S : StrOk X) (hm : X.mg "str" = none) (ha : DA X c [e] f) (hg : Gl X "str" := by rfl) (he : starEach [e] X.env = (false, eval e X.env) :: starEach [] X.env := by rfl) (hpl : (backTo pos (starEach [] X.env)).any (·.1) = false := by rfl) :
    DE X c (.Call (.Name "str" p) [e] [] pos) (eA dStr f) := by
  refine ⟨PE.imp (pe_callTy (call_strD S G.room) hg hm boot_strT ha.pa (he := he) (hpl := hpl)) fun σ H Q ⟨I, M, ρ, e, q⟩ => ?_⟩
  refine ⟨I, M, ρ, e, q.bind.mono fun x hx vs H1 M1 k1 e1 r1 => ?_⟩
  obtain ⟨d, hd, hp⟩ := hx.noE
  unfold dStr at hd
  split at hd
  · split at hd
    · rename_i hc
      cases hd
      cases r1 with
      | cons r0 r2 =>
        cases r2
        exact ⟨M1, _, _, rfl, e1.mok, G.K ▸ r0, hc, hp _ H1 M1 k1 e1 (.str _)⟩
    · cases hd
  · cases hd
end

/-! ### the end, where the law's def says str(x) -/
theorem ns_hid {h : Heap} {H : Hp} {b : Addr} {m : Str → Option Value} (hn : ∀ b o es ep, h.get? b = some o → o.data = .dict es ep → H b = none) (N : h.Ns b m) : (hidT h H).Ns b m := by
  obtain ⟨o, es, ep, e, d, r⟩ := N
  exact ⟨o, es, ep, hidT_get e (hn b o es ep e d), d, r⟩
theorem law_runs {B : ObjB} {P : Program} {w : World} {K : PySem.W.Frag} {mg mb : Str → Option Value} {cA : Nat → Addr} {k : Nat} {f a : Addr} {fd : FuncData} {y x qual : Str} {params : Arguments} {body : List Stmt} {scope : Scope} {kws : List (Str × V)} {N : List Str} {g : GS B} {t : Shared} {us : List Value} {ns : List Int}
    (kx : K.In t.heap) (n1 : t.heap.Ns mainGlobals mg) (n2 : t.heap.Ns builtinsNs mb) (n3 : ∀ x : Str, x ≠ "__name__" → mb x = bootBuiltins x) (n4 : t.heap.NoLimit) (n5 : ∃ mm, t.heap.Ns sysModules mm) (ng : t.gens = #[])
    (hob : t.heap.get? a = some { cls := .type "list", data := .seq us.toArray }) (hin : IntsAre us ns) (hl : ns.length ≤ sizeLine) (hr : Room (k + 1) callerA)
    (FD : FunD K y qual params body scope [] kws f fd) (S : FnScope N [x] scope) (hb : ∀ (s : Shared) (u : Value), BindsTo s fd ⟨[u], []⟩ [(x, u)])
    (hbody : ∀ base : Heap, K.In base → base.Ns mainGlobals mg → ∀ (cdv : Value) (s : Shared) (H : Hp) (E : XK), StrOk (bodyC P w K mg base N qual scope f cdv callerA [] s H E) → GoodS (B := B) (bodyC P w K mg base N qual scope f cdv callerA [] s H E) ⟨K, cA, E⟩ k →
      DSs (bodyC P w K mg base N qual scope f cdv callerA [] s H E) ⟨K, cA, E⟩ body g)
    (hF : runF N.length g [.dict [(.none, .list (ns.map PyData.int))]] = .ok (.bool true)) :
    codeAny (model P w) callerA (.call (.ref f) ⟨[.ref a], []⟩) (fun r s' => r = .ok (.ret (.bool true)) ∧ OldK t.heap s'.heap ∧ s'.os = t.os ∧ AllBare s'.gens) t := by
  -- from a heap in which at most the script is tracked
  have core : ∀ H : Hp, Only H → SqL K H a (ns.map V.int) → HOk P w H t.heap → (∀ b, H b ≠ none → b = a) → (H a ≠ none → K.lookup a = none) → codeAny (model P w) callerA (.call (.ref f) ⟨[.ref a], []⟩) (fun r s' => r = .ok (.ret (.bool true)) ∧ OldK t.heap s'.heap ∧ s'.os = t.os ∧ AllBare s'.gens) t := by
    intro H hO hS hok only hK
    have dno : ∀ b o es ep, t.heap.get? b = some o → o.data = .dict es ep → H b = none := fun b o es ep e d => by
      cases q : H b with
      | none => rfl
      | some z =>
        cases only b (by rw [q]; exact Option.some_ne_none _)
        rw [hob] at e
        cases e
        cases d
    have kb : K.In (hidT t.heap H) := fun b o e => hidT_get (kx b o e) (by
      cases q : H b with
      | none => rfl
      | some z =>
        cases only b (by rw [q]; exact Option.some_ne_none _)
        rw [hK (by rw [q]; exact Option.some_ne_none _)] at e
        cases e)
    have lim : (hidT t.heap H).NoLimit := by
      obtain ⟨mc, l1, l2⟩ := n4
      exact ⟨mc, ns_hid dno l1, l2⟩
    have md : Mod K mg (hidT t.heap H) := ⟨kb, ns_hid dno n1, ⟨mb, ns_hid dno n2, n3⟩, lim⟩
    have e0 : Env0 P w K mg (hidT t.heap H) callerA [] t H := ⟨rfl, md, fun b o e => of_hidT e, Nat.le_of_eq (hidT_size _ _), trivial, (fun b z => absurd (show b ∈ ([] : List Addr) from z) (List.not_mem_nil)), hok, .of_eq ng⟩
    obtain ⟨oc, od, dV, kV, doc, pm, an, cdv, ct, osl, rfl, lk, hcd, _, _⟩ := FD.ex
    have hkd : ∀ q ∈ [(x, Value.ref a)], scope.names.lookup q.1 = some .local ∨ (scope.names.lookup q.1 = some .cell ∧ ((cellsFrom (t.heap.objs.size + 1) scope.names []).lookup q.1).isSome = true) := fun q hq => by
      rw [List.mem_singleton] at hq
      subst hq
      exact (S.par x (List.mem_singleton.mpr rfl)).imp id fun h => ⟨h, PySem.W.cellsFrom_some _ _ _ (.inl h)⟩
    refine codeAny_call_function (by decide) (kx _ _ lk) rfl S.co S.gen rfl (PySem.W.codeRec_of kx hcd) (hb t (.ref a) _ _ _ _ ?_)
    refine wpAny_newFunctionEnv_cells S.kind hkd fun env he s1 xc => ?_
    subst he
    refine ⟨n4.keeps xc.toInCall.keep, codeAny_func ?_⟩
    have J : Inv (bodyC P w K mg (hidT t.heap H) N qual scope f cdv callerA [] t H (fun _ _ _ => False)) [] (L2.start N [.ref a]) H s1 := inv_start (ps := [x]) (us := [.ref a]) S hr.hd e0 rfl (.cons rfl .nil) xc
    have so : StrOk (bodyC P w K mg (hidT t.heap H) N qual scope f cdv callerA [] t H (fun _ _ _ => False)) := by
      obtain ⟨mm, o, es, ep, m1, m2, _⟩ := n5
      exact ⟨rfl, ⟨o, es, ep, m1, m2⟩, dno _ _ _ _ m1 m2, rfl, rfl⟩
    have q0 : tDS ⟨K, cA, fun _ _ _ => False⟩ g { nx := fun _ _ => False, rt := fun v _ => v = .bl true } (L2.start N [.ref a]) H := by
      refine ⟨⟨H, H, false⟩, H, startE N.length [.dict [(.none, .list (ns.map PyData.int))]], startE_env (only_mok hO) (.cons (.scr hS (Reps.of_ints ns)) .nil), ?_⟩
      unfold runF at hF
      cases hg : g (startE N.length [.dict [(.none, .list (ns.map PyData.int))]]) with
      | ok res =>
        rw [hg] at hF
        obtain ⟨fl, ρ'⟩ := res
        cases fl with
        | rt d =>
          cases hF
          intro v σ' H' M' sm e' r
          cases r
          rfl
        | nx => cases hF
        | bk => cases hF
        | ct => cases hF
        | rtL xs => cases hF
      | exc n => rw [hg] at hF; cases hF
      | stuck => rw [hg] at hF; cases hF
    refine wpAny_mono ((hbody _ kb (ns_hid dno n1) cdv t H _ so (good_body S.nd (hr.deeper _))).pss.run [] s1 _ H _ J q0) (fun fl s' hs => ?_) fun e s' hs => ?_
    · cases fl with
      | ret u =>
        obtain ⟨v, σ', H', J', rv, q⟩ := hs
        cases q
        cases (show u = .bool true from rv)
        refine ⟨rfl, OldK.of_keep fun b o e => ?_, J'.os, J'.bare⟩
        cases z : H b with
        | none => exact J'.base.keep b o e z (fun z => by cases z) (fun z => by cases z)
        | some z1 =>
          rcases hO b with z2 | ⟨ob, xs, z2⟩
          · rw [z] at z2; cases z2
          · have z3 := (hok b _ z2).1
            have z4 := (J'.hok b _ (J'.base.frzs b ob _ z2)).1
            rw [e] at z3
            cases z3
            exact z4
      | next =>
        obtain ⟨_, _, _, q⟩ := hs
        exact q.elim
      | brk =>
        obtain ⟨_, _, _, q⟩ := hs
        exact q.elim
      | cont =>
        obtain ⟨_, _, _, q⟩ := hs
        exact q.elim
    · refine wpAny_mono hs (fun _ s2 h => False.elim ?_) fun _ _ h => ?_
      · obtain ⟨_, _, _, _, _, _, _, _, _, _, _, _, z⟩ := h
        exact z
      · obtain ⟨_, _, _, _, _, _, _, _, _, _, _, _, z⟩ := h
        exact z.elim
  have rv := vals_ints hin
  cases hk : K.lookup a with
  | some o =>
    have e := kx a o hk
    rw [hob] at e
    cases e
    refine core (fun _ => none) (fun _ => .inl rfl) (.inr ⟨_, us.toArray, _, hk, rfl, rfl, rfl, ?_, by simpa using rv⟩) (fun b u z => by cases z) (fun b z => absurd rfl z) fun z => absurd rfl z
    rw [List.size_toArray, hin.length]
    exact hl
  | none =>
    refine core (fun b => if b = a then some (.frz { cls := .type "list", data := .seq us.toArray } (.lst (ns.map V.int))) else none) (fun b => ?_) (.inl (.inr ⟨_, if_pos rfl⟩)) (fun b u z => ?_) (fun b z => ?_) fun _ => hk
    · by_cases hb : b = a
      · exact .inr ⟨_, _, if_pos hb⟩
      · exact .inl (if_neg hb)
    · by_cases hb : b = a
      · simp only [if_pos hb] at z
        cases z
        subst hb
        exact ⟨hob, by rw [List.length_map]; exact hl, us, _, rv, hob⟩
      · simp only [if_neg hb] at z
        cases z
    · by_cases hb : b = a
      · exact hb
      · exact absurd (if_neg hb) z
theorem walk_ofG {B : ObjB} {l : PySem.W.OpenLaw} {k : Nat} {q : Program} {loose : List Str} {XP : (Str → Option Value) → Heap → Prop} {YP : World → Heap → Prop} {d : DefRec} {x : Str} (hn : l.most = some 63) (hdf : d.params.defaults = []) (hr : Room (k + 1) callerA) (hi : importsNone q = true)
    (F : ∀ (w : World) (mg : Str → Option Value) (f : Addr) (h : Heap), YP w h → h.Ns mainGlobals mg → mg d.name = some (.ref f) →
      ∃ (K : PySem.W.Frag) (fd : FuncData) (cA : Nat → Addr) (y qual : Str) (params : Arguments) (body : List Stmt) (scope : Scope) (kws : List (Str × V)) (N : List Str) (g : GS B), K.In h ∧ FunD K y qual params body scope [] kws f fd ∧ FnScope N [x] scope ∧ (∀ (s : Shared) (u : Value), BindsTo s fd ⟨[u], []⟩ [(x, u)]) ∧
        (∀ ns : List Int, runF N.length g [.dict [(.none, .list (ns.map PyData.int))]] = .ok (.bool true)) ∧
        ∀ base : Heap, K.In base → base.Ns mainGlobals mg → ∀ (cdv : Value) (s : Shared) (H : Hp) (E : XK), StrOk (bodyC l.prog w K mg base N qual scope f cdv callerA [] s H E) → GoodS (B := B) (bodyC l.prog w K mg base N qual scope f cdv callerA [] s H E) ⟨K, cA, E⟩ k →
          DSs (bodyC l.prog w K mg base N qual scope f cdv callerA [] s H E) ⟨K, cA, E⟩ body g) :
    PySem.W.WalkO q loose XP YP l.row.toRowW d [] (fun f vs => PySem.call f vs) := by
  refine Att.attach_call hn hdf fun w t0 t1 mg mb f ob pm cd doc a us ns Gv Yv ho hd1 hcd hmg hob hin hlen hgs => ?_
  obtain ⟨K, fd, cA, y, qual, params, body, scope, kws, N, g, kx, FD, S, hb, hF, hB⟩ := F w mg f _ Yv Gv.T.g hmg
  obtain ⟨mm, hm, _⟩ := (Gv.T.seer hi).mods
  exact law_runs kx Gv.T.g Gv.T.b Gv.T.builtins Gv.T.nolimit ⟨mm, hm⟩ hgs hob hin (Nat.le_trans hlen (by decide)) hr FD S hb hB (hF ns)
/-! ### what is not come to -/
section
variable {B : ObjB} {X : Cx} {c : Ctx B}
def gDead : GS B := fun _ => .stuck
theorem dss_dead {sts : List Stmt} : DSs X c sts (gDead : GS B) := ⟨⟨fun _ _ _ _ _ _ ⟨_, _, _, _, q⟩ => q.elim⟩⟩
def eDead : Env B → R D := fun _ => .stuck
theorem de_dead {e : Expr} : DE X c e (eDead : Env B → R D) := ⟨⟨fun _ _ _ _ _ _ ⟨_, _, _, _, q⟩ => q.elim⟩⟩
end
end PL

set_option Elab.async false
set_option linter.all false
set_option maxRecDepth 100000
set_option maxHeartbeats 4000000
/-! own lists, read -/
namespace PL
open PySem PySem.Spec PyProof.Rows L2
section
variable {B : ObjB} {X : Cx} {c : Ctx B} {pos : Pos} {K : PySem.W.Frag} {I : Ent} {M H M' H' : Hp} {σ σ' : L2.St} {ρ ρ' : Env B}
/-- tuple(x), x an own list -/
def eTupOwn (i : Nat) : Env B → R D := fun ρ => match ρ[i]? with
  | some (.own ds) => .ok (.tuple ds)
  | _ => .stuck
theorem de_tupOwn {i : Nat} {x : Str} {p q : Pos} (K : c.K = X.K) (hm : X.mg "tuple" = none) (hN : X.N[i]? = some x) (hv : Vis X.env.scope x) (hg : Gl X "tuple" := by rfl) (hd : (x == ("__debug__" : Str)) = false := by decide) (hcd : (x == ("__classdict__" : Str)) = false := by decide)
    (he : starEach [.Name x q] X.env = (false, eval (.Name x q) X.env) :: starEach [] X.env := by rfl) (hpl : (backTo pos (starEach [] X.env)).any (·.1) = false := by rfl) :
    DE X c (.Call (.Name "tuple" p) [.Name x q] [] pos) (eTupOwn (B := B) i) := by
  refine ⟨PE.imp (pe_callTy call_tuple_of hg hm boot_tupleT (pa_cons (pe_var hN hv hd hcd) pa_nil he) (he := he) (hpl := hpl)) fun σ H Q ⟨I, M, ρ, e, q⟩ => ?_⟩
  unfold eTupOwn at q
  split at q
  · rename_i ds hi
    obtain ⟨l, vs, a, hl, ml, il, r⟩ := e.slots i _ hi
    refine ⟨_, a, l, vs, rfl, .inl ⟨.inl (.inl hl), fun p hp => ?_⟩⟩
    have g := Grow.alloc e.mok hp (o := .tup vs) rfl
    exact q (.ref p) _ _ (.of g) (e.grow g) (.newT (e.mok.free hp) r)
  · exact q.elim
/-- x[k], x an own list -/
def eIxOwn (i : Nat) (f : Env B → R D) : Env B → R D := fun ρ => match ρ[i]? with
  | some (.own ds) => (f ρ).bind fun y => noE (dIx (.list ds) y)
  | _ => .stuck
end
end PL

set_option Elab.async false
set_option linter.all false
set_option maxRecDepth 100000
set_option maxHeartbeats 4000000
/-! shown texts: what they hold, how long they are -/
namespace PL
open PySem
theorem okS_append {x y : Str} (hx : PyData.strOk x = true) (hy : PyData.strOk y = true) : PyData.strOk (x ++ y) = true := by
  unfold PyData.strOk at *
  show (Array.all (x.cps ++ y.cps) _) = true
  rw [Array.all_append, hx, hy]
  rfl
theorem okS_ofString (s : String) : PyData.strOk (Str.ofString s) = true := by
  rw [Str.ofString_eq_toList]
  unfold PyData.strOk
  simp only [List.all_toArray, List.all_map, List.all_eq_true, Function.comp_def, decide_eq_true_eq]
  intro c _
  have := c.valid
  simp only [UInt32.isValidChar, Nat.isValidChar] at this
  show c.val.toNat < _
  omega
theorem okS_join {sep : Str} (hs : PyData.strOk sep = true) : ∀ {ts : List Str}, (∀ t ∈ ts, PyData.strOk t = true) → PyData.strOk (Str.join sep ts) = true
  | [], _ => show PyData.strOk Str.empty = true by decide +kernel
  | [x], h => h x (List.mem_cons_self ..)
  | x :: y :: r, h => by
    show PyData.strOk (x ++ sep ++ Str.join sep (y :: r)) = true
    exact okS_append (okS_append (h x (List.mem_cons_self ..)) hs) (okS_join hs fun t ht => h t (List.mem_cons_of_mem _ ht))
theorem okS_from : ∀ {ts : List Str} {k : Nat} {acc : Str}, PyData.strOk acc = true → (∀ t ∈ ts, PyData.strOk t = true) → PyData.strOk (textFrom k acc ts) = true
  | [], _, _, ha, _ => ha
  | t :: ts, k, acc, ha, h => by
    rw [textFrom]
    exact okS_from (okS_append (okS_append ha (okS_ofString _)) (h t (List.mem_cons_self ..))) fun z hz => h z (List.mem_cons_of_mem _ hz)
mutual
theorem okS_shown : ∀ {d : D}, showD d = true → PyData.strOk d.shown = true
  | .none, _ => okS_ofString _
  | .bool b, _ => by cases b <;> exact okS_ofString _
  | .int i, _ => okS_ofString _
  | .str x, h => (Bool.and_eq_true_iff.mp (show (PyData.strOk x && PyData.strOk (reprText x)) = true from h)).2
  | .list xs, h => by
    rw [PyData.shown]
    exact okS_append (okS_from (okS_ofString _) (okS_shownAll (by simpa [showD] using h))) (okS_ofString _)
  | .tuple xs, h => by
    rw [PyData.shown]
    exact okS_append (okS_append (okS_ofString _) (okS_join (okS_ofString _) (okS_shownAll (by simpa [showD] using h)))) (okS_ofString _)
  | .dict [], _ => by decide +kernel
  | .dict (_ :: _), h => by cases h
theorem okS_shownAll : ∀ {ds : List D}, showDs ds = true → ∀ t ∈ PyData.shownAll ds, PyData.strOk t = true
  | [], _, t, ht => by simp [PyData.shownAll] at ht
  | x :: xs, h, t, ht => by
    have h2 := Bool.and_eq_true_iff.mp (show (showD x && showDs xs) = true from h)
    rw [PyData.shownAll] at ht
    rcases List.mem_cons.mp ht with rfl | ht
    · exact okS_shown h2.1
    · exact okS_shownAll h2.2 t ht
end
theorem okS_strOfD {d : D} (h : showD d = true) : PyData.strOk (strOfD d) = true := by
  unfold strOfD
  split
  · exact (Bool.and_eq_true_iff.mp (show (PyData.strOk _ && PyData.strOk (reprText _)) = true from h)).1
  · exact okS_shown h
theorem showDs_iff : ∀ {xs : List D}, showDs xs = true ↔ ∀ x ∈ xs, showD x = true
  | [] => by simp [showDs]
  | x :: xs => by simp [showDs, showDs_iff (xs := xs)]
/-- little data -/
def little (n : Nat) (d : D) : Prop := showD d = true ∧ d.leavesShort 40 = true ∧ d.bulk ≤ n
theorem shortAll_iff : ∀ {xs : List D}, PyData.leavesShortAll 40 xs = true ↔ ∀ x ∈ xs, x.leavesShort 40 = true
  | [] => by simp [PyData.leavesShortAll]
  | x :: xs => by simp [PyData.leavesShortAll, shortAll_iff (xs := xs)]
theorem bulkAll_le {n : Nat} : ∀ {xs : List D}, (∀ x ∈ xs, x.bulk ≤ n) → PyData.bulkAll xs ≤ (n + 1) * xs.length
  | [], _ => by simp [PyData.bulkAll]
  | x :: xs, h => by
    have h1 := h x (List.mem_cons_self ..)
    have h2 := bulkAll_le (n := n) (xs := xs) fun y hy => h y (List.mem_cons_of_mem _ hy)
    rw [PyData.bulkAll, List.length_cons, Nat.mul_add, Nat.mul_one]
    omega
theorem little_list {n m : Nat} {xs : List D} (h : ∀ x ∈ xs, little n x) (hl : (n + 1) * xs.length ≤ m) : little m (.list xs) := by
  refine ⟨?_, ?_, ?_⟩
  · rw [showD]; exact showDs_iff.mpr fun x hx => (h x hx).1
  · rw [PyData.leavesShort]; exact shortAll_iff.mpr fun x hx => (h x hx).2.1
  · rw [PyData.bulk]; exact Nat.le_trans (bulkAll_le fun x hx => (h x hx).2.2) hl
theorem little_tuple {n m : Nat} {xs : List D} (h : ∀ x ∈ xs, little n x) (hl : (n + 1) * xs.length ≤ m) : little m (.tuple xs) := by
  refine ⟨?_, ?_, ?_⟩
  · rw [showD]; exact showDs_iff.mpr fun x hx => (h x hx).1
  · rw [PyData.leavesShort]; exact shortAll_iff.mpr fun x hx => (h x hx).2.1
  · rw [PyData.bulk]; exact Nat.le_trans (bulkAll_le fun x hx => (h x hx).2.2) hl
theorem little_none {n : Nat} : little n .none := ⟨rfl, rfl, Nat.zero_le _⟩
theorem little_bool {n : Nat} (b : Bool) : little n (.bool b) := ⟨rfl, rfl, Nat.zero_le _⟩
theorem log2_lt {m k : Nat} (h : m < 2 ^ k) (hk : 0 < k) : m.log2 < k := by
  by_cases h0 : m = 0
  · subst h0; simpa using hk
  · exact (Nat.log2_lt h0).mpr h
theorem little_int {n : Nat} {i : Int} (h : i.natAbs < 10 ^ 12) : little n (.int i) := by
  refine ⟨decide_eq_true (log2_lt (Nat.lt_trans h (Nat.lt_of_lt_of_le (show 10 ^ 12 < 2 ^ 64 by decide) (Nat.pow_le_pow_right (by decide) (by decide)))) (by decide)), ?_, Nat.zero_le _⟩
  rw [PyData.leavesShort]
  exact decide_eq_true (Nat.le_trans (PyData.shown_int_le h) (by decide))
theorem dStr_little' {d : D} {n : Nat} (h : little n d) (hn : n ≤ 20000) (hd : d.depth ≤ 60) : dStr [d] = .ok (.str (strOfD d)) := by
  have h1 := PyData.shown_le_bulk 40 (by decide) d h.2.1
  have h2 := h.2.2
  simp only [dStr]
  rw [h.1, decide_eq_true hd, decide_eq_true (show d.shown.length ≤ 4000000 by omega)]
  rfl
theorem dStr_little {d : D} (h : little 1000 d) (hd : d.depth ≤ 60) : dStr [d] = .ok (.str (strOfD d)) := dStr_little' h (by decide) hd
theorem noObjs_true (ρ : Env noObj) : noObjs ρ = true := List.all_eq_true.mpr fun s _ => by
  cases s with
  | obj z => cases z
  | _ => rfl
theorem isi_str (t : D) (h : tyD t ≠ none) : dIsi "str" t = .ok (.bool (match t with | .str _ => true | _ => false)) := by
  cases t <;> first | rfl | skip
  rename_i kv
  cases kv
  · rfl
  · exact absurd rfl h
theorem dEq_str {x y : Str} (hx : PyData.strOk x = true) (hy : PyData.strOk y = true) : dEq (.str x) (.str y) = .ok (.bool (decide (x = y))) := by
  rw [dEq_sh (n := 0) (m := 0) (sh_str (by rw [PyData.canLay0]; exact hx)) (sh_str (by rw [PyData.canLay0]; exact hy))]
  simp only [PyData.eqv]
  rfl
theorem dNe_str {x y : Str} (hx : PyData.strOk x = true) (hy : PyData.strOk y = true) : dNe (.str x) (.str y) = .ok (.bool (!decide (x = y))) := by
  rw [dNe_sh (n := 0) (m := 0) (sh_str (by rw [PyData.canLay0]; exact hx)) (sh_str (by rw [PyData.canLay0]; exact hy))]
  simp only [PyData.eqv]
  rfl
end PL

set_option Elab.async false
set_option linter.all false
set_option maxRecDepth 100000
set_option maxHeartbeats 4000000
/-! defs that call themselves -/
namespace PL
open PySem PySem.Spec PyProof.Rows L2
theorem df_stuck {P : Program} {w : World} {K : PySem.W.Frag} {mg : Str → Option Value} {base : Heap} {cA : Nat → Addr} {x qual : Str} {params : Arguments} {body : List Stmt} {scope : Scope} {kws : List (Str × V)} {f : Addr} {fd : FuncData} {ps : List Str} {k : Nat} (FD : FunD K x qual params body scope [] kws f fd) (hb : Binds K fd ps []) (gx : mg x = some (.ref f)) :
    Df P w K mg base cA x k ps.length (fun _ => .stuck) :=
  ⟨f, fd, ps, rfl, ⟨fun vs H Q E h => h.1, fun A outer s H args us vs Q E hr e0 hbn r h => h.2.elim fun _ h => h.elim fun _ h => h.2.2.elim⟩, gx, FD.kp, hb⟩
/-- a name of the top that stands for a tuple of ints -/
def tupFact (x : Str) (ns : List Int) (K : PySem.W.Frag) : Bool := match K.lookup (He.ga K x) with
  | some o => decide (o.cls = .type "tuple") && (match o.data with
    | .seq its _ => decide (its.size ≤ sizeLine) && He.relAll (ns.map V.int) its.toList
    | _ => false)
  | none => false
theorem tupFact_ok {x : Str} {ns : List Int} {K : PySem.W.Frag} (h : tupFact x ns K = true) (M : Hp) : SqT K M (He.ga K x) (ns.map V.int) := by
  unfold tupFact at h
  split at h
  · rename_i o ho
    obtain ⟨h1, h2⟩ := He.ba h
    split at h2
    · rename_i its n hd
      obtain ⟨h3, h4⟩ := He.ba h2
      exact .inr ⟨o, its, n, ho, of_decide_eq_true h1, hd, of_decide_eq_true h3, He.relAll_ok h4⟩
    · cases h2
  · cases h
theorem de_gtup {B : ObjB} {X : Cx} {c : Ctx B} {pos : Pos} {x : Str} {ns : List Int} (h : tupFact x ns c.K = true) (hm : X.mg x = some (.ref (He.ga c.K x))) (hg : Gl X x := by rfl) (hd : (x == ("__debug__" : Str)) = false := by decide) : DE X c (.Name x pos) (eC (.tuple (ns.map PyData.int))) :=
  de_glob (v := .ref (He.ga c.K x)) hg hm rfl (fun M => .tup (tupFact_ok h M) (Reps.of_ints ns)) hd
/-! ### len(set(x)), x a list of ints -/
section
variable {B : ObjB} {X : Cx} {c : Ctx B} {pos : Pos}
theorem fm_nodup (val : Nat → Int) : ∀ i, (PyProof.Rows.firstMet val i).Nodup
  | 0 => by rw [PyProof.Rows.firstMet_zero]; exact List.nodup_nil
  | i + 1 => by
    rw [PyProof.Rows.firstMet_succ]
    unfold PyProof.Rows.step_dedup
    split
    · exact fm_nodup val i
    · rename_i h
      refine List.nodup_append.mpr ⟨fm_nodup val i, by simp, fun a ha b hb e => h ?_⟩
      rw [List.mem_singleton] at hb
      subst hb
      exact List.any_eq_true.mpr ⟨a, ha, by simp [e]⟩
theorem fm_mem (ns : List Int) (k : Int) : k ∈ PyProof.Rows.firstMet (fun i => ns.getD i 0) ns.length ↔ k ∈ ns := by
  have h := PyProof.Rows.firstMet_any (fun i => ns.getD i 0) ns.length k
  have e : (List.range ns.length).map (fun i => ns.getD i 0) = ns := by
    apply List.ext_getElem
    · simp
    · intro i h1 h2
      simp [List.getD, h2]
  rw [e] at h
  constructor
  · intro hk
    have : ns.any (· == k) = true := by rw [← h]; exact List.any_eq_true.mpr ⟨k, hk, by simp⟩
    obtain ⟨x, hx, e⟩ := List.any_eq_true.mp this
    rw [← eq_of_beq e]; exact hx
  · intro hk
    have : (PyProof.Rows.firstMet (fun i => ns.getD i 0) ns.length).any (· == k) = true := by rw [h]; exact List.any_eq_true.mpr ⟨k, hk, by simp⟩
    obtain ⟨x, hx, e⟩ := List.any_eq_true.mp this
    rw [← eq_of_beq e]; exact hx
theorem fm_len (ns : List Int) : (PyProof.Rows.firstMet (fun i => ns.getD i 0) ns.length).length = (distI ns).length :=
  nodup_len (fm_nodup _ _) (up_nodup (distI_up ns)) fun z => by rw [fm_mem, distI_mem]
theorem insU_le (x : Int) : ∀ l : List Int, (insU x l).length ≤ l.length + 1
  | [] => by simp [insU]
  | y :: r => by
    have := insU_le x r
    unfold insU
    split
    · simp
    · split <;> simp <;> omega
theorem distI_le' : ∀ l : List Int, (distI l).length ≤ l.length
  | [] => Nat.le_refl _
  | x :: r => by
    have h1 := distI_le' r
    have h2 := insU_le x (distI r)
    rw [show distI (x :: r) = insU x (distI r) from rfl, List.length_cons]
    omega
def setIntsL (x : D) : R (List Int) := match x with
  | .list ds => match intsOf ds with
    | some ns => if ns.length ≤ 60 then .ok ns else .stuck
    | none => .stuck
  | _ => .stuck
def eLenSetL (f : Env B → R D) : Env B → R D := fun ρ => (f ρ).bind fun x => (setIntsL x).bind fun ns => .ok (.int (distI ns).length)
theorem setIntsL_rd {I : Ent} {x : D} {P : List Int → Prop} (h : RD c I (setIntsL x) P) : ∃ ns, x = .list (ns.map .int) ∧ ns.length ≤ 60 ∧ P ns := by
  unfold setIntsL at h
  split at h
  · split at h
    · rename_i ns hn
      split at h
      · exact ⟨ns, by rw [intsOf_eq hn], by assumption, h⟩
      · exact h.elim
    · exact h.elim
  · exact h.elim
/-- set(x): the set stands -/
def rSetL (K : PySem.W.Frag) : V → Hp → VK → Prop := fun x H Q => ∃ (l : Addr) (ns : List Int), x = .ref l ∧ SqL K H l (ns.map V.int) ∧ ns.length ≤ 60 ∧ ∀ p S, H p = none → Q (.ref p) (upd H p (.set S (distI ns).length))
theorem pe_setL {a : Expr} {ta : TE} {p q : Pos} (hg2 : Gl X "set") (hm2 : X.mg "set" = none) (hc : X.calm = true) (ha : PE X a ta) (na : starEach [a] X.env = (false, eval a X.env) :: starEach [] X.env := by rfl) : PE X (.Call (.Name "set" p) [a] [] q) (tUn (rSetL X.K) ta) := by
  refine ⟨fun pins s σ H Q I h => ?_⟩
  refine Call_ (ld_blt I hg2 hm2 PyProof.Rows.boot_set ?_)
  refine PyProof.Rows.callWith_type1 (PyProof.Rows.args_cons (thn (ha.run pins s σ H _ I h) fun v s1 ⟨x, H1, I1, r1, q1⟩ => PyProof.Rows.args_nil ?_) na) na rfl
  obtain ⟨l, ns, rfl, hq, hl, q1⟩ := q1
  cases r1
  obtain ⟨its, rv, pt, hz⟩ := I1.list hq
  have hi : IntsAre its.toArray.toList ns := by simpa using Vals.ints rv
  have hlen : its.toArray.size = ns.length := by have := hi.length; simpa using this
  refine PySem.call_set_list (I1.ok.hd hc) pt.isList hi (by rw [hlen]; unfold scanBound; omega) fun h' tk R1 k => ?_
  have hn : H1 s1.heap.objs.size = none := I1.hok.fresh (Nat.le_refl _)
  rw [hlen, fm_len] at R1
  exact ⟨.ref s1.heap.objs.size, _, I1.laid (t' := tk) (o := .set (fun z => (PyProof.Rows.firstMet (fun i => ns.getD i 0) ns.length).any (· == z)) (distI ns).length) (fun b u e => k b u (Heap.lt_size e) e) (Nat.le_refl _) R1, rfl, q1 _ _ hn⟩
theorem de_lenSetL {a : Expr} {f : Env B → R D} {p p2 q : Pos} {k : Nat} (G : Good X c k) (hm : X.mg "len" = none) (hm2 : X.mg "set" = none) (ha : DE X c a f) (hg : Gl X "len" := by rfl) (hg2 : Gl X "set" := by rfl)
    (na : starEach [a] X.env = (false, eval a X.env) :: starEach [] X.env := by rfl) (he : starEach [.Call (.Name "set" p2) [a] [] q] X.env = (false, eval (.Call (.Name "set" p2) [a] [] q) X.env) :: starEach [] X.env := by rfl) :
    DE X c (.Call (.Name "len" p) [.Call (.Name "set" p2) [a] [] q] [] pos) (eLenSetL f) := by
  have hcall : CallR X (.builtin "len") (fun xs H Q => ∃ a S n, xs = [.ref a] ∧ H a = some (.set S n) ∧ n < 100 ∧ Q (.int n) H) := by
    intro pins s σ H xs us Q I r h
    obtain ⟨a, S, n, rfl, ha, hn, q⟩ := h
    rw [Vals.ref1 r]
    obtain ⟨o, es, ep, t, ho, hex, hd, _, _, _, hf, hn'⟩ := I.hok a _ ha
    exact call_len_set ho hex hd hf (by omega) ⟨.int n, H, I.tok _, ⟨_, by rw [hn']⟩, q⟩
  refine ⟨PE.imp (pe_callB hcall hg hm PySem.boot_len (pa_cons (pe_setL hg2 hm2 G.calm ha.pe na) pa_nil he) (he := he) (hpl := rfl)) fun σ H Q ⟨I, M, ρ, e, q⟩ => ?_⟩
  refine ⟨I, M, ρ, e, q.bind.mono fun x hx v H1 M1 k1 e1 r1 => ?_⟩
  obtain ⟨ns, rfl, hl, hx⟩ := setIntsL_rd hx.bind
  cases r1 with
  | lst h r =>
    cases r.ints
    have hd := distI_le' ns
    refine ⟨_, ns, rfl, SqL.of (e1.mok.same _ _ h), hl, fun p0 S hp => ?_⟩
    have sm : Same H1 (upd H1 p0 (.set S (distI ns).length)) := upd_same_of hp
    have g : Grow M1 H1 M1 (upd H1 p0 (.set S (distI ns).length)) := ⟨sm, Same.refl _, fun b o z => ⟨sm _ _ (e1.mok b o z).1, (e1.mok b o z).2⟩, fun b o z n => by rw [z] at n; cases n⟩
    exact ⟨p0, S, _, rfl, upd_same, by omega, hx _ _ M1 (k1.trans (.of g)) (e1.grow g) (.int _)⟩
end
end PL

set_option Elab.async false
set_option linter.all false
set_option maxRecDepth 100000
set_option maxHeartbeats 4000000
/-! t[::-1], t a tuple -/
namespace PL
open PySem PySem.Spec PyProof.Rows L2
theorem adj_rev (n : Nat) : Builtin.Slice.sliceAdjust none none (-1) (n : Int) = ((n : Int) - 1, -1) := by
  simp [Builtin.Slice.sliceAdjust]
theorem places_rev (n : Nat) : Builtin.Slice.slicePlaces ((n : Int) - 1) (-1) (-1) = n := by
  unfold Builtin.Slice.slicePlaces
  have h1 : ¬ ((-1 : Int) > 0) := by decide
  simp only [h1, if_false]
  by_cases h : (n : Int) - 1 > -1
  · rw [if_pos h, show (- -1 : Int) = 1 by decide, Int.ediv_one]
    omega
  · rw [if_neg h]
    omega
section
variable {prog : Program} {w : World} {A : Around} {E : Value → Shared → Prop} {s : Shared}
theorem applied_rev {sl : Addr} {vs : Value} {n : Nat} {Q : Int × Int × Nat → Shared → Prop} (hs : s.heap.IsSliceOf sl .none .none vs) (ps : IsPart vs (some (-1))) (h : Q ((n : Int) - 1, -1, n) s) : wpAny (model prog w) A (Builtin.Slice.sliceApplied (.ref sl) (pure (n : Int))) Q E s := by
  obtain ⟨os, hos, hcs, hds⟩ := id hs
  unfold Builtin.Slice.sliceApplied Builtin.Slice.sliceFields
  refine wpAny_bind (wpAny_bind (wpAny_field hos hds (x := .none) rfl (wpAny_bind (wpAny_field hos hds (x := .none) rfl (wpAny_bind (wpAny_field hos hds (x := vs) rfl (wpAny_pure ?_)))))))
  refine wpAny_bind (HT.slicePart_ ps ?_)
  show wpAny _ _ (if ((-1 : Int) == 0) = true then _ else _) _ _ s
  rw [if_neg (by decide)]
  refine wpAny_bind (HT.slicePart_ .none (wpAny_bind (HT.slicePart_ .none (wpAny_bind (wpAny_pure ?_)))))
  show wpAny _ _ (match Builtin.Slice.sliceAdjust none none (-1) (n : Int) with | (lo, hi) => pure (lo, (-1 : Int), Builtin.Slice.slicePlaces lo hi (-1))) _ _ s
  rw [adj_rev n]
  show wpAny _ _ (pure ((n : Int) - 1, (-1 : Int), Builtin.Slice.slicePlaces ((n : Int) - 1) (-1) (-1))) _ _ s
  rw [places_rev]
  exact wpAny_pure h
theorem fm_congr {α β : Type} {f g : α → Option β} : ∀ {l : List α}, (∀ m ∈ l, f m = g m) → l.filterMap f = l.filterMap g
  | [], _ => rfl
  | a :: l, h => by rw [List.filterMap_cons, List.filterMap_cons, h a (List.mem_cons_self ..), fm_congr fun m hm => h m (List.mem_cons_of_mem _ hm)]
theorem pick_rev (xs : Array Value) : ((List.range xs.size).filterMap fun (m : Nat) => xs[((xs.size : Int) - 1 + (m : Int) * (-1)).toNat]?).toArray = xs.toList.reverse.toArray := by
  have e : (List.range xs.size).filterMap (fun (m : Nat) => xs[((xs.size : Int) - 1 + (m : Int) * (-1)).toNat]?) = ((List.range xs.size).map fun k => xs.size - 1 - k).filterMap (xs[·]?) := by
    rw [List.filterMap_map]
    refine fm_congr fun m hm => ?_
    have := List.mem_range.mp hm
    show xs[((xs.size : Int) - 1 + (m : Int) * (-1)).toNat]? = xs[xs.size - 1 - m]?
    have e2 : ((xs.size : Int) - 1 + (m : Int) * (-1)).toNat = xs.size - 1 - m := by omega
    rw [e2]
  rw [e, PySem.W.krv_range, List.filterMap_reverse, PySem.W.krv_all]
theorem getItem_rev {t sl : Addr} {items : Array Value} {vs : Value} {Q : Value → Shared → Prop} (ht : IsTup s.heap t items) (hs : s.heap.IsSliceOf sl .none .none vs) (ps : IsPart vs (some (-1)))
    (h : Q (.ref s.heap.objs.size) { s with heap := s.heap.push { cls := .type "tuple", data := .seq items.toList.reverse.toArray } }) (hsz : items.size ≤ sizeLine) : wpAny (model prog w) A (getItem (.ref t) (.ref sl)) Q E s := by
  have hok : sizeOk (.seq items.toList.reverse.toArray) := by
    show items.toList.reverse.toArray.size ≤ sizeLine
    rw [List.size_toArray, List.length_reverse, Array.length_toList]
    exact hsz
  obtain ⟨os, hos, hcs, hds⟩ := id hs
  have hTs : s.TypeIs (.ref sl) "slice" := ⟨os, hos, hcs⟩
  unfold getItem
  try with_reducible refine wpAny_holding ?_
  first | refine wpAny_bind (wpAny_pure ?_) | skip
  refine wpAny_bind (wpAny_sequenceKey ht.typeIs (by decide) (wpAny_bind (wpAny_callSpecial?_slot (name := Str.ofString "__getitem__") ht.typeIs PyProof.Rows.slot_tuple_getitem (wpAny_call_entry PyProof.Rows.slot_tuple_getitem ht.typeIs entry_tuple_getitem ?_ (args_tuple_getitem _ _)))))
  show wpAny _ _ (Builtin.Tuple.tupleItemsOf (.ref t) >>= _) _ _ s
  refine wpAny_bind (tupleItemsOf_ ht (wpAny_bind (wpAny_typeOf hTs ?_)))
  rw [if_pos (by decide)]
  refine wpAny_bind (applied_rev hs ps ?_)
  have hno : ¬ ((((items.size : Int) - 1) == 0 && (-1 : Int) == 1 && items.size == items.size) = true) := by
    intro q
    rw [Bool.and_eq_true, Bool.and_eq_true] at q
    have := eq_of_beq q.1.2
    omega
  show wpAny _ _ (if (((items.size : Int) - 1) == 0 && (-1 : Int) == 1 && items.size == items.size) = true then _ else _) _ _ s
  rw [if_neg hno, pick_rev]
  first
    | exact wpAny_bind (m := Builtin.Tuple.tupleExact _) (wpAny_newObj_type (wpAny_pure ⟨_, rfl, wpAny_pure h⟩) hok)
    | exact wpAny_bind (m := Builtin.Tuple.tupleExact _) (wpAny_newObj_type (wpAny_bind (wpAny_pure (wpAny_pure ⟨_, rfl, wpAny_pure h⟩))) hok)
    | exact wpAny_bind (wpAny_bind (m := Builtin.Tuple.tupleExact _) (wpAny_newObj_type (wpAny_pure (wpAny_pure ⟨_, rfl, wpAny_pure h⟩)) hok))
    | exact wpAny_bind (wpAny_bind (m := Builtin.Tuple.tupleExact _) (wpAny_newObj_type (wpAny_pure ⟨_, rfl, wpAny_pure h⟩) hok))
end
section
variable {B : ObjB} {X : Cx} {c : Ctx B} {pos : Pos} {e : Expr} {f : Env B → R D}
def tRevT (K : PySem.W.Frag) (te : TE) : TE := fun σ H Q => te σ H fun x H1 => ∃ a xs, x = .ref a ∧ SqT K H1 a xs ∧ ∀ p, H1 p = none → Q (.ref p) (upd H1 p (.tup xs.reverse))
theorem pe_revT {te : TE} {k : Nat} {p1 p2 p3 : Pos} (he : PE X e te) : PE X (.Subscript e (.Slice none none (some (.UnaryOp .USub (.Constant (.int 1) k p1) p2)) p3) pos) (tRevT X.K te) := by
  refine ⟨fun pins s σ H Q I h => ?_⟩
  refine Subscript_ (thn (he.run pins s σ H _ I h) fun v s1 ⟨x, H1, I1, r1, a, xs, ex, hx, q⟩ => ?_)
  subst ex
  cases r1
  have hst : PO X (some (.UnaryOp .USub (.Constant (.int 1) k p1) p2)) (tPart (tUn (rU fun i => .int (-i)) (tC (.int 1)))) := po_some (pe_un un_neg pe_int)
  refine wpAny_Slice (thn (po_none.run pins s1 σ H1 (fun o H2 => o = none ∧ H2 = H1) I1 ⟨rfl, rfl⟩) fun vl s2 ⟨l, H2, I2, pl, z1, z2⟩ => ?_)
  subst z1 z2
  refine thn (po_none.run pins s2 σ H2 (fun o H3 => o = none ∧ H3 = H2) I2 ⟨rfl, rfl⟩) fun vu s3 ⟨u, H3, I3, pu, z1, z2⟩ => ?_
  subst z1 z2
  refine thn (hst.run pins s3 σ H3 (fun o H4 => o = some (-1) ∧ H4 = H3) I3 ⟨1, rfl, -1, rfl, rfl, rfl⟩) fun vs s4 ⟨o, H4, I4, ps, z1, z2⟩ => ?_
  subst z1 z2
  cases pl
  cases pu
  have I5 : Inv X pins σ H4 { s4 with heap := s4.heap.push { cls := .type "slice", data := .fields #[.none, .none, vs] } } := I4.kept (t' := s4.toks) fun b ob q => Heap.get?_push_of_some _ q
  obtain ⟨its, r, ht, hz⟩ := I5.tuple hx
  have hlen := r.length
  show wpAny (model X.prog X.w) X.A (subscriptTail e (.Slice none none (some (.UnaryOp .USub (.Constant (.int 1) k p1) p2)) p3) (.ref a) (.ref s4.heap.objs.size)) (EP X pins σ Q) X.xe { s4 with heap := s4.heap.push { cls := .type "slice", data := .fields #[.none, .none, vs] } }
  refine tail_any (ops := [.ref a, .ref s4.heap.objs.size]) ht.typeIs (PyProof.Rows.slot_tuple_getitem.lookup) (getItem_rev ht (Heap.IsSliceOf.new _ .none .none vs) ps ?_ (by rw [List.size_toArray]; omega)) (by with_unfolding_all rfl)
  refine ⟨.ref _, _, I5.laid (t' := s4.toks) (o := .tup xs.reverse) (fun b ob q => Heap.get?_push_of_some _ q) (Nat.le_refl _) ?_, rfl, q _ (I5.hok.fresh (Nat.le_refl _))⟩
  exact ⟨by rw [List.length_reverse]; exact hz, _, r.reverse, _, Heap.get?_push_size _ rfl, rfl, 0, rfl⟩
def dRevT : D → R D
  | .tuple xs => .ok (.tuple xs.reverse)
  | _ => .stuck
theorem de_revT {j : Nat} {p1 p2 p3 : Pos} (K : c.K = X.K) (he : DE X c e f) : DE X c (.Subscript e (.Slice none none (some (.UnaryOp .USub (.Constant (.int 1) j p1) p2)) p3) pos) (e1 dRevT f) := by
  refine ⟨PE.imp (pe_revT he.pe) fun σ H Q ⟨I, M, ρ, e, q⟩ => ?_⟩
  refine ⟨I, M, ρ, e, q.bind.mono fun x hx v H1 M1 k1 e1 r1 => ?_⟩
  obtain ⟨d, hd, hp⟩ := hx.noE
  unfold dRevT at hd
  split at hd
  · cases hd
    cases r1 with
    | tup h r => exact ⟨_, _, rfl, K ▸ sqT_same e1.mok.same h, fun p hq => post_grow hp k1 e1 _ _ _ (.alloc e1.mok hq rfl) (.newT (e1.mok.free hq) r.reverse)⟩
  · cases hd
end
end PL

set_option Elab.async false
set_option linter.all false
set_option maxRecDepth 100000
set_option maxHeartbeats 4000000
/-! t == (): whatever t holds -/
namespace PL
open PySem PySem.Spec PyProof.Rows L2
section
variable {X : Cx}
def dEqN : D → D → R D
  | .tuple xs, .tuple [] => .ok (.bool xs.isEmpty)
  | _, _ => .stuck
def rEqN (K : PySem.W.Frag) : R2 := fun x y H Q => ∃ a xs b, x = .ref a ∧ y = .ref b ∧ SqT K H a xs ∧ SqT K H b [] ∧ Q (.bl xs.isEmpty) H
theorem op_eqN (hu : X.A.units < cLine) : OpR X (compareOp .Eq) (rEqN X.K) := by
  intro pins s σ H x y v u Q I rx ry h
  obtain ⟨a, xs, b, rfl, rfl, ha, hb, q⟩ := h
  cases rx
  cases ry
  obtain ⟨its, r, ht, _⟩ := I.tuple ha
  obtain ⟨its2, r2, ht2, _⟩ := I.tuple hb
  cases r2
  refine SeqAt.eq_tupleAt (e := fun _ => true) ht ht2 hu (fun j h1 h2 => absurd h2 (by simp)) ?_
  have hlen := r.length
  have e : ((List.range (min its.toArray.size ([] : List Value).toArray.size)).all (fun _ => true) && its.toArray.size == ([] : List Value).toArray.size) = xs.isEmpty := by
    cases xs with
    | nil => cases r; rfl
    | cons x xs => cases its with
      | nil => simp at hlen
      | cons y ys => simp
  rw [e]
  exact ⟨.bl _, H, I, rfl, q⟩
theorem ok_eqN {K : PySem.W.Frag} : Ok2 K (rEqN K) dEqN := by
  intro M H v w dv dw d Q k rv rw' h q
  unfold dEqN at h
  split at h
  · cases h
    cases rv with
    | tup ha ra =>
      cases rw' with
      | tup hb rb =>
        cases rb
        refine ⟨_, _, _, rfl, rfl, sqT_same k.same ha, sqT_same k.same hb, ?_⟩
        have e := ra.length
        have e2 : ∀ (vs : List V) (ds : List D), vs.length = ds.length → vs.isEmpty = ds.isEmpty := fun vs ds e => by cases vs <;> cases ds <;> simp at e ⊢
        rw [e2 _ _ e]
        exact q _ _ _ (.refl k) (.bl _)
  · cases h
def cEqN {k : Nat} (h : Room k X.A) : CmpD X .Eq dEqN := ⟨_, op_eqN (by have := units64 h; omega), ok_eqN⟩
end
end PL

set_option Elab.async false
set_option linter.all false
set_option maxRecDepth 100000
set_option maxHeartbeats 4000000
/-! a list of two lists that is emptied at the end (law k03): the stretch between its making and its end is walked with an entry of its own -/
namespace PL
open PySem PySem.Spec PyProof.Rows L2
/-- a list of two fresh lists, none of them known at the entry -/
def PairAt (I : Ent) (M : Hp) (v : V) : Prop := ∃ p l0 l1 vs0 vs1, v = .ref p ∧ M p = some (.lst [.ref l0, .ref l1]) ∧ M l0 = some (.lst vs0) ∧ M l1 = some (.lst vs1) ∧ (p ≠ l0 ∧ p ≠ l1 ∧ l0 ≠ l1) ∧ I.H l0 = none ∧ I.H l1 = none
/-- (true, d): stood at the entry; (false, d): the list of two lists -/
def PinR (K : PySem.W.Frag) (I : Ent) (M : Hp) (v : V) : Bool × D → Prop
  | (true, d) => Rep K I.M v d
  | (false, d) => Rep K M v d ∧ PairAt I M v
def pinB : ObjB where
  Dat := Bool × D
  rep := fun K I M H v z => PinR K I M v z
  mono := fun K I M H M' H' v z h s _ _ => by
    obtain ⟨b, d⟩ := z
    cases b with
    | true => exact h
    | false =>
      obtain ⟨r, p, l0, l1, vs0, vs1, a, h1, h2, h3, h4, h5⟩ := h
      exact ⟨r.same s, p, l0, l1, vs0, vs1, a, s _ _ h1, s _ _ h2, s _ _ h3, h4, h5⟩
section
variable {X : Cx} {c : Ctx pinB} {pos : Pos} {K : PySem.W.Frag} {I : Ent} {M H M' H' : Hp} {σ σ' : L2.St} {ρ ρ' : Env pinB}
def eVarP (i : Nat) : Env pinB → R D := fun ρ => match ρ[i]? with
  | some (.val d) => .ok d
  | some (.obj z) => .ok z.2
  | _ => .stuck
theorem PinR.rep {z : Bool × D} {v : V} (e : Same I.M M) (h : PinR K I M v z) : Rep K M v z.2 := by
  obtain ⟨b, d⟩ := z
  cases b with
  | true => exact Rep.same e h
  | false => exact h.1
theorem de_varP {i : Nat} {x : Str} (hN : X.N[i]? = some x) (hv : Vis X.env.scope x) (hd : (x == ("__debug__" : Str)) = false := by decide) (hcd : (x == ("__classdict__" : Str)) = false := by decide) : DE X c (.Name x pos) (eVarP i) := by
  refine ⟨PE.imp (pe_var hN hv hd hcd) fun σ H Q ⟨I, M, ρ, e, h⟩ => ?_⟩
  unfold eVarP at h
  split at h
  · rename_i d q
    obtain ⟨v, e1, r⟩ := e.slots i _ q
    exact ⟨v, e1, h v H M .refl e r⟩
  · rename_i z q
    obtain ⟨v, e1, r⟩ := e.slots i _ q
    exact ⟨v, e1, h v H M .refl e (PinR.rep e.msub r)⟩
  · exact h.elim
/-- what stood at the entry is held fast -/
def pinS : Slot pinB → Slot pinB
  | .val d => .obj (true, d)
  | _ => .no
def pinIn (ρ : Env pinB) : Env pinB := ρ.map pinS
theorem pinS_own {s : Slot pinB} {ds : List D} (h : pinS s = .own ds) : False := by
  cases s <;> cases h
theorem EnvR.pin {b : Bool} {M1 H1 : Hp} (e : EnvR K I M H σ ρ) (k : Step b M H M1 H1) (m1 : MOk M1 H1) : EnvR K ⟨M, H, b⟩ M1 H1 σ (pinIn ρ) where
  len := by unfold pinIn; rw [List.length_map]; exact e.len
  ent := k.k
  msub := k.m
  mok := m1
  mnew := k.new
  slots := fun i s h => by
    unfold pinIn at h
    rw [List.getElem?_map] at h
    obtain ⟨t, ht, rfl⟩ := Option.map_eq_some_iff.mp h
    have q := e.slots i t ht
    cases t with
    | no => trivial
    | own ds => trivial
    | obj z => trivial
    | val d =>
      obtain ⟨v, a, r⟩ := q
      exact ⟨v, a, r⟩
  apart := fun i j ds es _ h1 _ => by
    unfold pinIn at h1
    rw [List.getElem?_map] at h1
    obtain ⟨t, _, ht⟩ := Option.map_eq_some_iff.mp h1
    exact (pinS_own ht).elim
theorem EnvR.setObj {B : ObjB} {ρ : Env B} {i : Nat} {v : V} {z : B.Dat} (e : EnvR K I M H σ ρ) (r : B.rep K I M H v z) : EnvR K I M H (σ.set i (some v)) (ρ.set i (.obj z)) where
  len := by rw [List.length_set, List.length_set]; exact e.len
  ent := e.ent
  msub := e.msub
  mok := e.mok
  mnew := e.mnew
  slots := fun j s h => by
    by_cases hj : i = j
    · subst hj
      by_cases hl : i < ρ.length
      · rw [List.getElem?_set_self hl] at h
        cases h
        exact ⟨v, by rw [List.getElem?_set_self (by rw [e.len]; exact hl)], r⟩
      · rw [List.getElem?_eq_none (by rw [List.length_set]; omega)] at h; cases h
    · rw [List.getElem?_set_ne hj] at h ⊢
      exact e.slots j s h
  apart := fun j k ds es hne h1 h2 => by
    have nj : i ≠ j := fun z => by
      subst z
      by_cases hl : i < ρ.length
      · rw [List.getElem?_set_self hl] at h1; cases h1
      · rw [List.getElem?_eq_none (by rw [List.length_set]; omega)] at h1; cases h1
    have nk : i ≠ k := fun z => by
      subst z
      by_cases hl : i < ρ.length
      · rw [List.getElem?_set_self hl] at h2; cases h2
      · rw [List.getElem?_eq_none (by rw [List.length_set]; omega)] at h2; cases h2
    rw [List.getElem?_set_ne nj] at h1 ⊢
    rw [List.getElem?_set_ne nk] at h2 ⊢
    exact e.apart j k ds es hne h1 h2
/-! ### no list within -/
mutual
def noLst : D → Bool
  | .list _ => false
  | .dict _ => false
  | .tuple xs => noLsts xs
  | _ => true
def noLsts : List D → Bool
  | [] => true
  | x :: r => noLst x && noLsts r
end
def Most (M M' : Hp) : Prop := ∀ a o, M a = some o → (∀ vs, o ≠ .lst vs) → M' a = some o
theorem sqT_most {K : PySem.W.Frag} {M M' : Hp} (s : Most M M') {a : Addr} {xs : List V} (h : SqT K M a xs) : SqT K M' a xs := by
  rcases h with (h | ⟨o, h⟩) | h
  · exact .inl (.inl (s _ _ h fun vs z => by cases z))
  · exact .inl (.inr ⟨o, s _ _ h fun vs z => by cases z⟩)
  · exact .inr h
mutual
theorem Rep.most {K : PySem.W.Frag} {M M' : Hp} (s : Most M M') : ∀ {v : V} {d : D}, noLst d = true → Rep K M v d → Rep K M' v d
  | _, _, _, .non => .non
  | _, _, _, .bl b => .bl b
  | _, _, _, .int i => .int i
  | _, _, _, .str x => .str x
  | _, _, n, .lst h r => by simp [noLst] at n
  | _, _, n, .scr h r => by simp [noLst] at n
  | _, _, n, .tup h r => .tup (sqT_most s h) (Reps.most s (by simpa [noLst] using n) r)
  | _, _, n, .dic h => by simp [noLst] at n
theorem Reps.most {K : PySem.W.Frag} {M M' : Hp} (s : Most M M') : ∀ {vs : List V} {ds : List D}, noLsts ds = true → Reps K M vs ds → Reps K M' vs ds
  | _, _, _, .nil => .nil
  | _, _, n, .cons h t => by
    simp only [noLsts, Bool.and_eq_true] at n
    exact .cons (Rep.most s n.1 h) (Reps.most s n.2 t)
end
/-! ### back, when the two lists are emptied -/
def poutS : Slot pinB → Slot pinB
  | .obj (true, d) => .val d
  | .own ds => if noLsts ds = true then .own ds else .no
  | _ => .no
def pinOut (ρ : Env pinB) : Env pinB := ρ.map poutS
theorem poutS_own {s : Slot pinB} {ds : List D} (h : poutS s = .own ds) : s = .own ds := by
  cases s with
  | no => cases h
  | val d => cases h
  | obj z =>
    obtain ⟨b, d⟩ := z
    cases b <;> cases h
  | own es =>
    unfold poutS at h
    dsimp only at h
    split at h
    · cases h; rfl
    · cases h
def lessM (M : Hp) (l0 l1 : Addr) : Hp := fun a => if a = l0 ∨ a = l1 then none else M a
theorem EnvR.unpin {b : Bool} {M0 H0 : Hp} {ρ0 : Env pinB} {σ0 : L2.St} {l0 l1 : Addr} {vs0 vs1 : List V} (e0 : EnvR K I M0 H0 σ0 ρ0) (hb : b = I.b) (e : EnvR K ⟨M0, H0, b⟩ M H σ ρ) (h0 : M l0 = some (.lst vs0)) (h1 : M l1 = some (.lst vs1)) (n0 : H0 l0 = none) (n1 : H0 l1 = none) :
    EnvR K I (lessM M l0 l1) (upd (upd H l0 (.lst [])) l1 (.lst [])) σ (pinOut ρ) ∧ Same M0 (lessM M l0 l1) := by
  subst hb
  have m0 : M0 l0 = none := e0.mok.free n0
  have m1 : M0 l1 = none := e0.mok.free n1
  have sm : Same M0 (lessM M l0 l1) := fun a o h => by
    have na : ¬ (a = l0 ∨ a = l1) := fun z => by
      rcases z with z | z
      · subst z; rw [m0] at h; cases h
      · subst z; rw [m1] at h; cases h
    unfold lessM
    rw [if_neg na]
    exact e.msub a o h
  have less : ∀ a o, lessM M l0 l1 a = some o → a ≠ l0 ∧ a ≠ l1 ∧ M a = some o := fun a o h => by
    unfold lessM at h
    split at h
    · cases h
    · rename_i z
      exact ⟨fun y => z (.inl y), fun y => z (.inr y), h⟩
  have off : ∀ a, a ≠ l0 → a ≠ l1 → upd (upd H l0 (.lst [])) l1 (.lst []) a = H a := fun a x y => by
    rw [upd_ne y, upd_ne x]
  have il0 : I.H l0 = none := e0.ent.free n0
  have il1 : I.H l1 = none := e0.ent.free n1
  have most : Most M (lessM M l0 l1) := fun a o h no => by
    have na : ¬ (a = l0 ∨ a = l1) := fun z => by
      rcases z with z | z
      · subst z; rw [h0] at h; cases h; exact no _ rfl
      · subst z; rw [h1] at h; cases h; exact no _ rfl
    unfold lessM
    rw [if_neg na]
    exact h
  refine ⟨{ len := ?_, ent := ?_, msub := ?_, mok := ?_, mnew := ?_, slots := ?_, apart := ?_ }, sm⟩
  · unfold pinOut; rw [List.length_map]; exact e.len
  · intro a o h
    have n0' : a ≠ l0 := fun z => by subst z; rw [il0] at h; cases h
    have n1' : a ≠ l1 := fun z => by subst z; rw [il1] at h; cases h
    rw [off a n0' n1']
    exact (e0.ent.trans e.ent) a o h
  · exact fun a o h => sm a o (e0.msub a o h)
  · intro a o h
    obtain ⟨x, y, z⟩ := less a o h
    rw [off a x y]
    exact e.mok a o z
  · intro a o h n
    obtain ⟨x, y, z⟩ := less a o h
    cases q : M0 a with
    | none => exact e0.ent.free (e.mnew a o z q)
    | some o' => exact e0.mnew a o' q n
  · intro i s h
    unfold pinOut at h
    rw [List.getElem?_map] at h
    obtain ⟨t, ht, rfl⟩ := Option.map_eq_some_iff.mp h
    have q := e.slots i t ht
    cases t with
    | no => trivial
    | val d => trivial
    | obj z =>
      obtain ⟨b, d⟩ := z
      cases b with
      | false => trivial
      | true =>
        obtain ⟨v, a, r⟩ := q
        exact ⟨v, a, Rep.same sm r⟩
    | own ds =>
      obtain ⟨l, vs, a, hl, ml, il, r⟩ := q
      unfold poutS
      dsimp only
      split
      · rename_i hn
        have n0' : l ≠ l0 := fun z => by subst z; rw [h0] at ml; cases ml
        have n1' : l ≠ l1 := fun z => by subst z; rw [h1] at ml; cases ml
        refine ⟨l, vs, a, by rw [off l n0' n1']; exact hl, ?_, e0.ent.free il, r.most most hn⟩
        unfold lessM
        split
        · rfl
        · exact ml
      · trivial
  · intro i j ds es hne h1 h2
    unfold pinOut at h1 h2
    rw [List.getElem?_map] at h1 h2
    obtain ⟨t, ht, e1⟩ := Option.map_eq_some_iff.mp h1
    obtain ⟨u, hu, e2⟩ := Option.map_eq_some_iff.mp h2
    rw [poutS_own e1] at ht
    rw [poutS_own e2] at hu
    exact e.apart i j ds es hne ht hu

/-! ### blocks with something behind -/
def tDK (c : Ctx pinB) (g : GS pinB) (κ : TS) : TS := fun Dn σ H => ∃ I M ρ, EnvR c.K I M H σ ρ ∧ RD c I (g ρ) fun r => match r.1 with
  | .nx => ∀ σ' H' M', Same M M' → EnvR c.K I M' H' σ' r.2 → κ Dn σ' H'
  | _ => False
structure DSK (X : Cx) (c : Ctx pinB) (sts : List Stmt) (g : GS pinB) (κ : TS) : Prop where
  pss : PSs X sts (tDK c g κ)
theorem dsk_end {sts : List Stmt} {κ : TS} (h : PSs X sts κ) : DSK X c sts gNil κ :=
  ⟨PSs.imp h fun Dn σ H ⟨I, M, ρ, e, q⟩ => q σ H M (Same.refl _) e⟩
theorem dsk_cons {st : Stmt} {rest : List Stmt} {g1 g2 : GS pinB} {κ : TS} (h : DS X c st g1) (h' : DSK X c rest g2 κ) : DSK X c (st :: rest) (gSeq g1 g2) κ := by
  refine ⟨PSs.imp (pss_cons h.ps h'.pss) fun Dn σ H ⟨I, M, ρ, e, q⟩ => ?_⟩
  refine ⟨I, M, ρ, e, q.bind.mono fun r hr => ?_⟩
  obtain ⟨fl, ρ1⟩ := r
  cases fl with
  | nx =>
    refine fun σ' H' M' s e' => ⟨I, M', ρ1, e', RD.mono hr fun r2 h2 => ?_⟩
    obtain ⟨fl2, ρ2⟩ := r2
    cases fl2 with
    | nx => exact fun σ2 H2 M2 s2 e2 => h2 σ2 H2 M2 (s.trans s2) e2
    | bk => exact h2
    | ct => exact h2
    | rt d => exact h2
    | rtL d => exact h2
  | bk => exact hr.elim
  | ct => exact hr.elim
  | rt d => exact hr.elim
  | rtL ds => exact hr.elim
/-! ### h[0].clear(), h[1].clear(), the rest -/
def tClr (h : Nat) (t : TS) : TS := fun Dn σ H => ∃ p l0 l1 vs0 vs1, σ[h]? = some (some (.ref p)) ∧ H p = some (.lst [.ref l0, .ref l1]) ∧ H l0 = some (.lst vs0) ∧ H l1 = some (.lst vs1) ∧ (p ≠ l0 ∧ p ≠ l1 ∧ l0 ≠ l1) ∧ t Dn σ (upd (upd H l0 (.lst [])) l1 (.lst []))
theorem pss_clr {h : Nat} {x : Str} {t : TS} {rest : List Stmt} {j0 j1} {p0 p1 p2 p3 p4 p5 p6 p7 p8 p9 p10 p11 : Pos} (hN : X.N[h]? = some x) (hv : Vis X.env.scope x) (ht : PSs X rest t) (hd : (x == ("__debug__" : Str)) = false := by decide) (hcd : (x == ("__classdict__" : Str)) = false := by decide)
    (hm0 : ∀ {ta : TE}, PE X (.Subscript (.Name x p0) (.Constant (.int 0) j0 p1) p2) ta → PE X (.Call (.Attribute (.Subscript (.Name x p0) (.Constant (.int 0) j0 p1) p2) "clear" p3) [] [] p4) (tBM0 X.K "list" rClear ta) := by intro _ h1; exact pe_bm0 PySem.F.plainAttrs_list PySem.F.slot_list_clear PySem.F.type_list_clear mt_clear h1)
    (hm1 : ∀ {ta : TE}, PE X (.Subscript (.Name x p6) (.Constant (.int 1) j1 p7) p8) ta → PE X (.Call (.Attribute (.Subscript (.Name x p6) (.Constant (.int 1) j1 p7) p8) "clear" p9) [] [] p10) (tBM0 X.K "list" rClear ta) := by intro _ h1; exact pe_bm0 PySem.F.plainAttrs_list PySem.F.slot_list_clear PySem.F.type_list_clear mt_clear h1)
    (hs0 : swapsWith (.Call (.Attribute (.Subscript (.Name x p0) (.Constant (.int 0) j0 p1) p2) "clear" p3) [] [] p4) none p5.line X.env = pure false := by rfl)
    (hs1 : swapsWith (.Call (.Attribute (.Subscript (.Name x p6) (.Constant (.int 1) j1 p7) p8) "clear" p9) [] [] p10) none p11.line X.env = pure false := by rfl)
    (hx0 : PlainIx (.Constant (.int 0) j0 p1) := by intro _ _; rfl) (hx1 : PlainIx (.Constant (.int 1) j1 p7) := by intro _ _; rfl) :
    PSs X (.Expr (.Call (.Attribute (.Subscript (.Name x p0) (.Constant (.int 0) j0 p1) p2) "clear" p3) [] [] p4) p5 :: .Expr (.Call (.Attribute (.Subscript (.Name x p6) (.Constant (.int 1) j1 p7) p8) "clear" p9) [] [] p10) p11 :: rest) (tClr h t) := by
  refine PSs.imp (pss_cons (ps_expr (hm0 (pe_ix ix_list (pe_var hN hv hd hcd) pe_int hx0)) hs0) (pss_cons (ps_expr (hm1 (pe_ix ix_list (pe_var hN hv hd hcd) pe_int hx1)) hs1) ht)) fun Dn σ H ⟨p, l0, l1, vs0, vs1, hσ, hp, h0, h1, ⟨n0, n1, n01⟩, q⟩ => ?_
  have hp2 : upd H l0 (.lst []) p = some (.lst [.ref l0, .ref l1]) := by rw [upd_ne n0]; exact hp
  have h12 : upd H l0 (.lst []) l1 = some (.lst vs1) := by rw [upd_ne (Ne.symm n01)]; exact h1
  refine ⟨_, hσ, p, _, 0, .ref l0, rfl, rfl, SqL.of hp, rfl, tyV_lst h0, l0, vs0, rfl, rfl, h0, ?_⟩
  exact ⟨_, hσ, p, _, 1, .ref l1, rfl, rfl, SqL.of hp2, rfl, tyV_lst h12, l1, vs1, rfl, rfl, h12, q⟩

/-! ### h = [list(..), list(..)], what is done with it, its end, the rest -/
def isPin : Option (Slot pinB) → Bool
  | some (.obj (false, _)) => true
  | _ => false
def gPair (h : Nat) (f0 f1 : Env pinB → R (List D)) (gm gt : GS pinB) : GS pinB := fun ρ => (f0 ρ).bind fun xs => (f1 ρ).bind fun ys => (noE (gm ((pinIn ρ).set h (.obj (false, .list [.list xs, .list ys]))))).bind fun r => match r with
  | (.nx, ρ1) => if isPin ρ1[h]? = true then gt (pinOut ρ1) else .stuck
  | _ => .stuck
theorem isPin_eq {o : Option (Slot pinB)} (h : isPin o = true) : ∃ d, o = some (.obj (false, d)) := by
  unfold isPin at h
  split at h
  · exact ⟨_, rfl⟩
  · cases h
theorem dss_pair {h : Nat} {x : Str} {e0 e1 : Expr} {p1 p2 : Pos} {f0 f1 : Env pinB → R (List D)} {gm gt : GS pinB} {rest : List Stmt} (hN : X.N.Nodup) (hi : X.N[h]? = some x) (hx : Loc X.env.scope x) (h0 : DL X c e0 f0) (h1 : DL X c e1 f1) (hm : DSK X c rest gm (tClr h (tDS c gt)))
    (hs : swapsWith (.List [e0, e1] p2) (some (.Name x p1)) pos.line X.env = pure false := by rfl) (hf : X.fn x = true ∨ X.env.scope.names.lookup x = some .local := by first | exact .inl rfl | exact .inr rfl | assumption)
    (hs0 : starEach [e0, e1] X.env = (false, eval e0 X.env) :: starEach [e1] X.env := by rfl) (hs1 : starEach [e1] X.env = (false, eval e1 X.env) :: starEach [] X.env := by rfl) :
    DSs X c (.Assign [.Name x p1] (.List [e0, e1] p2) pos :: rest) (gPair h f0 f1 gm gt) := by
  refine ⟨PSs.imp (pss_cons (ps_set hN hi hx (pe_lst (pa_cons h0.pe (pa_cons h1.pe pa_nil hs1) hs0)) hs hf) hm.pss) fun Dn σ H ⟨I, M, ρ, e, q⟩ => ?_⟩
  refine ⟨I, M, ρ, e, q.bind.mono fun xs hxs l0 vs0 Ha Ma ka ea hl0 ml0 nl0 r0 => ?_⟩
  -- the first list is taken among what stays
  have il0 : I.H l0 = none := e.ent.free nl0
  have ea2 := ea.adopt (o := .lst vs0) hl0 rfl ml0 il0 fun j es hj => e.ownThere hj nl0
  have ka2 : Step I.b M H (upd Ma l0 (.lst vs0)) Ha := ⟨ka.k, ka.m.trans (upd_same_of ml0), fun a o h n => by
    by_cases z : a = l0
    · subst z; exact nl0
    · rw [upd_ne z] at h; exact ka.new a o h n⟩
  refine ⟨I, upd Ma l0 (.lst vs0), ρ, ea2, hxs.bind.mono fun ys hys l1 vs1 Hb Mb kb eb hl1 ml1 nl1 r1 => ?_⟩
  have n01 : l0 ≠ l1 := fun z => by subst z; rw [nl1] at hl0; cases hl0
  have nH1 : H l1 = none := ka.k.free nl1
  have kb2 : Step I.b M H (upd Mb l1 (.lst vs1)) Hb := ⟨ka.k.trans kb.k, (ka2.m.trans kb.m).trans (upd_same_of ml1), fun a o h n => by
    by_cases z : a = l1
    · subst z; exact nH1
    · rw [upd_ne z] at h; exact (ka2.trans kb).new a o h n⟩
  have mokb : MOk (upd Mb l1 (.lst vs1)) Hb := fun a o h => by
    by_cases z : a = l1
    · subst z; rw [upd_same] at h; cases h; exact ⟨hl1, rfl⟩
    · rw [upd_ne z] at h; exact eb.mok a o h
  have two : [V.ref l0, V.ref l1].length ≤ sizeLine := le_line (show 2 ≤ 1000 by decide)
  refine ⟨two, fun p hp => ?_⟩
  have np0 : p ≠ l0 := fun z => by subst z; rw [(eb.mok _ _ (kb.m _ _ upd_same)).1] at hp; cases hp
  have np1 : p ≠ l1 := fun z => by subst z; rw [hl1] at hp; cases hp
  have gp := Grow.alloc mokb hp (o := .lst [.ref l0, .ref l1]) rfl
  have kp := kb2.trans (.of gp)
  have mb0 : upd Mb l1 (.lst vs1) l0 = some (.lst vs0) := by rw [upd_ne n01]; exact kb.m _ _ upd_same
  have R0 : Reps c.K (upd (upd Mb l1 (.lst vs1)) p (.lst [.ref l0, .ref l1])) vs0 xs := r0.same (((upd_same_of ml0).trans kb.m).trans ((upd_same_of ml1).trans gp.m))
  have R1 : Reps c.K (upd (upd Mb l1 (.lst vs1)) p (.lst [.ref l0, .ref l1])) vs1 ys := r1.same ((upd_same_of ml1).trans gp.m)
  have M0 := gp.m l0 _ mb0
  have M1 := gp.m l1 _ upd_same
  have E1 := (e.pin kp gp.ok).setObj (B := pinB) (i := h) (v := .ref p) (z := (false, .list [.list xs, .list ys]))
    ⟨.lst upd_same (.cons (.lst M0 R0) (.cons (.lst M1 R1) .nil)), p, l0, l1, vs0, vs1, rfl, upd_same, M0, M1, ⟨np0, np1, n01⟩, nl0, nH1⟩
  refine ⟨⟨M, H, I.b⟩, _, _, E1, ?_⟩
  have hys' : RD c I ((noE (gm ((pinIn ρ).set h (.obj (false, .list [.list xs, .list ys]))))).bind fun r => match r with
    | (.nx, ρ1) => if isPin ρ1[h]? = true then gt (pinOut ρ1) else .stuck
    | _ => .stuck) (PostS c I M Dn) := hys
  obtain ⟨r, hr, hq⟩ := hys'.bind.noE
  rw [hr]
  obtain ⟨fl, ρ1⟩ := r
  cases fl with
  | bk => exact hq.elim
  | ct => exact hq.elim
  | rt d => exact hq.elim
  | rtL ds => exact hq.elim
  | nx =>
    intro σ' H' M' sm e'
    have hq' : RD c I (if isPin ρ1[h]? = true then gt (pinOut ρ1) else .stuck) (PostS c I M Dn) := hq
    split at hq'
    · rename_i hpin
      obtain ⟨d, hd⟩ := isPin_eq hpin
      obtain ⟨v, hv, rr, p', k0, k1, ws0, ws1, rfl, mp, m0, m1, nn, i0, i1⟩ := e'.slots h _ hd
      obtain ⟨E2, S2⟩ := EnvR.unpin e rfl e' m0 m1 i0 i1
      exact ⟨p', k0, k1, ws0, ws1, hv, (e'.mok _ _ mp).1, (e'.mok _ _ m0).1, (e'.mok _ _ m1).1, nn, I, _, _, E2, RD.mono hq' fun r h => h.same S2⟩
    · exact hq'.elim
end
end PL

set_option Elab.async false
set_option linter.all false
set_option maxRecDepth 100000
set_option maxHeartbeats 4000000

namespace W
open PySem PySem.Spec PyProof.Rows L2 PL
/-! ### the text: its defs by place, the facts of its top -/
def top (i : Nat) : Stmt := PySem.Challenge.pw_panplan_k03_still_open.main.body.getD i (.Pass ⟨0, 0, 0, 0⟩)
abbrev dF (x : Str) (i : Nat) : He.DefD := ⟨(x, none), x, x, defArgs (top i), defBody (top i), defScope (top i), [], []⟩
def fn : List He.DefD := [dF "is_among" 9, dF "need_many" 10, dF "is_case" 11, dF "need_cases" 12, dF "is_pan" 14, dF "is_weighing" 15, dF "came" 18, dF "is_done" 21, dF "need_done" 22, dF "still_open" 23, dF "told" 30, dF "least" 31, dF "_law_cell_at" 33, dF "_law_mixed" 34, dF "_law_whole" 35, dF "_law_came" 36, dF "_law_pans" 37, dF "_law_pool" 38, dF "_law_puzzle" 39, dF "_law_done" 40, dF "_law_open" 41, dF "_law_class" 42, dF "_law_wrong_done" 43, dF "_law_refused" 44, dF "_law_tuples" 45, dF "law" 46]
def fa : List He.Fa := [.free "all", .free "bool", .free "enumerate", .free "int", .free "isinstance", .free "len", .free "list", .free "min", .free "range", .free "reversed", .free "sorted", .free "str", .free "sum", .free "tuple", .free "ValueError", .glo "is_among", .glo "need_many", .glo "is_case", .glo "need_cases", .glo "is_pan", .glo "is_weighing", .glo "came", .glo "is_done", .glo "need_done", .glo "still_open", .glo "told", .glo "least", .glo "_law_cell_at", .glo "_law_mixed", .glo "_law_whole", .glo "_law_came", .glo "_law_pans", .glo "_law_pool", .glo "_law_puzzle", .glo "_law_done", .glo "_law_open", .glo "_law_class", .glo "_law_wrong_done", .glo "_law_refused", .glo "_law_tuples", .glo "law", .int "LEAST_THINGS" 2, .int "MOST_THINGS" 5, .int "MOST_CASES" 12, .int "MOST_DONE" 20, .exc "PanError", .glo "PanError", .exc "BadCount", .glo "BadCount", .exc "BadCases", .glo "BadCases", .exc "BadDone", .glo "BadDone"]
def ex : PySem.W.Frag → Bool := fun K => exFacts K
abbrev TF (K : PySem.W.Frag) (mg : Str → Option Value) : Prop := FactsX K mg fa fn ex
theorem exX {K : PySem.W.Frag} {mg : Str → Option Value} (T : TF K mg) : exFacts K = true := T.ex
/-- the classes of errors by their numbers: 0 PanError, 1 BadCount, 2 BadCases, 3 BadDone -/
def cA (K : PySem.W.Frag) : Nat → Addr
  | 0 => He.ga K "PanError"
  | 1 => He.ga K "BadCount"
  | 2 => He.ga K "BadCases"
  | 3 => He.ga K "BadDone"
  | _ => 0
theorem cA_ex {K : PySem.W.Frag} {m : Nat} {x : Str} (h : exN m = some x) : cA K m = He.ga K x := by
  unfold exN at h
  split at h <;> cases h <;> rfl
variable {P : Program} {w : World} {K : PySem.W.Frag} {mg : Str → Option Value} {base : Heap}
/-! ### is_among -/
def g_is_among : GS noObj := (gRet (eAnd (e1 (dIsi "int") (eVar 0)) (eAnd (eNot (e1 (dIsi "bool") (eVar 0))) (eChain dLe dLe (eVar 1) (eVar 0) (eVar 2)))))
def F_is_among : List D → R D := runF 3 g_is_among
theorem sc_is_among : FnScope ["thing", "least", "most"] ["thing", "least", "most"] (defScope (top 9)) := ⟨rfl, rfl, rfl, by decide +kernel, rfl, by decide +kernel, by decide +kernel⟩
theorem df_is_among (T : TF K mg) : Df P w K mg base (cA K) "is_among" 1 3 F_is_among := by
  obtain ⟨fd, FD⟩ := T.says.def_ 0 (d := dF "is_among" 9) rfl
  refine df_mk (B := noObj) (k := 0) (g := g_is_among) FD sc_is_among (FD.bindsN fun _ _ _ _ _ _ us hl => match us, hl with | [_, _, _], _ => rfl) (T.glo 15) fun cdv A outer s H E G => ?_
  exact (dss_one (ds_ret (de_and (de_isi G.toGood.K (T.free 4) (T.free 3) boot_intT (de_var (i := 0) rfl (.inl rfl))) (de_and (de_not (de_isi G.toGood.K (T.free 4) (T.free 1) boot_boolT (de_var (i := 0) rfl (.inl rfl)))) (de_one (de_chain cLe cLe G.toGood.K (de_var (i := 1) rfl (.inl rfl)) (de_var (i := 0) rfl (.inl rfl)) (de_var (i := 2) rfl (.inl rfl))))))))
/-! ### need_many -/
def g_need_many : GS noObj := (gIf (tNotD (tV (eCall 3 F_is_among (aCons (eVar 0) (aCons (eC (.int 2)) (aCons (eC (.int 5)) aNil)))))) (gExc 1) gNil)
def F_need_many : List D → R D := runF 1 g_need_many
theorem sc_need_many : FnScope ["many"] ["many"] (defScope (top 10)) := ⟨rfl, rfl, rfl, by decide +kernel, rfl, by decide +kernel, by decide +kernel⟩
theorem df_need_many (T : TF K mg) : Df P w K mg base (cA K) "need_many" 2 1 F_need_many := by
  obtain ⟨fd, FD⟩ := T.says.def_ 1 (d := dF "need_many" 10) rfl
  refine df_mk (B := noObj) (k := 1) (g := g_need_many) FD sc_need_many (FD.bindsN fun _ _ _ _ _ _ us hl => match us, hl with | [_], _ => rfl) (T.glo 16) fun cdv A outer s H E G => ?_
  exact (dss_one (ds_if (dt_not (dt_val (de_call G.toGood (df_is_among T) (by decide) (da_cons (de_var (i := 0) rfl (.inl rfl)) (da_cons (de_gint (T.int 41)) (da_cons (de_gint (T.int 42)) da_nil)))))) (dss_one (ds_raise (n := 1) G (T.exc rfl rfl 47 48))) dss_nil))
/-! ### is_case -/
def c_is_case_1 : Env noObj → R (List D) := (lLc (iSeq (eVar 1)) (gN 2) tYesD (eCall 3 F_is_among (aCons (eVar 2) (aCons (e1 dNeg (eC (.int 1))) (aCons (eC (.int 1)) aNil)))) [2])
def g_is_case : GS noObj := (gSeq (gIf (tOrD (tNotD (tV (e1 (dIsi "tuple") (eVar 1)))) (tV (e2 dNe (eA dLen (aCons (eVar 1) aNil)) (eVar 0)))) (gRet (eC (.bool false))) gNil) (gRet (eA dAll (aCons (eL c_is_case_1) aNil))))
def F_is_case : List D → R D := runF 3 g_is_case
theorem sc_is_case : FnScope ["many", "thing", "one"] ["many", "thing"] (defScope (top 11)) := ⟨rfl, rfl, rfl, by decide +kernel, rfl, by decide +kernel, by decide +kernel⟩
theorem df_is_case (T : TF K mg) : Df P w K mg base (cA K) "is_case" 2 2 F_is_case := by
  obtain ⟨fd, FD⟩ := T.says.def_ 2 (d := dF "is_case" 11) rfl
  refine df_mk (B := noObj) (k := 1) (g := g_is_case) FD sc_is_case (FD.bindsN fun _ _ _ _ _ _ us hl => match us, hl with | [_, _], _ => rfl) (T.glo 17) fun cdv A outer s H E G => ?_
  exact (dss_cons (ds_if (dt_w (dw_or (dt_not (dt_val (de_isi G.toGood.K (T.free 4) (T.free 13) boot_tupleT (de_var (i := 1) rfl (.inl rfl))))) (dw_or1 (dt_cmp (cNe G.toGood.room) G.toGood.K (de_len G.toGood.K (T.free 5) (da_cons (de_var (i := 1) rfl (.inl rfl)) da_nil)) (de_var (i := 0) rfl (.inl rfl)) (nomark _))))) (dss_one (ds_ret de_bl)) dss_nil) (dss_one (ds_ret (de_all G.toGood.K G.toGood.calm (T.free 0) (da_cons (de_l (dl_lc (own := [("one", 2)]) G.toGood (di_seq G.toGood.K (de_var (i := 1) rfl (.inl rfl))) (blkOk_by (by kernel_rfl)) (fun _ _ _ _ _ => (dg_name (i := 2) G.toGood.nd rfl (.inl rfl))) (by decide) (fun _ _ _ _ _ G1 => dts_nil) (fun _ _ _ _ _ G1 => (de_call G1 (df_is_among T) (by decide) (da_cons (de_var (i := 2) rfl (.inl rfl)) (da_cons (de_neg de_int) (da_cons de_int da_nil))))))) da_nil)))))
/-! ### need_cases -/
def g_need_cases_L1 : GS noObj := (gIf (tOrD (tNotD (tV (eCall 2 F_is_case (aCons (eVar 0) (aCons (eVar 3) aNil))))) (tV (e2 dIn (eVar 3) (eSl (eVar 1) oNone (oSome (eVar 2)))))) (gExc 2) gNil)
def g_need_cases : GS noObj := (gSeq (gDrop (eCall 1 F_need_many (aCons (eVar 0) aNil))) (gSeq (gIf (tOrD (tNotD (tV (e1 (dIsi "list") (eVar 1)))) (tNotD (tV (eChain dLe dLe (eC (.int 1)) (eA dLen (aCons (eVar 1) aNil)) (eC (.int 12)))))) (gExc 2) gNil) (gFor (iEnumD (aCons (eVar 1) aNil)) (gT 2 (gsC (gN 2) (gsC (gN 3) gsN))) g_need_cases_L1)))
def F_need_cases : List D → R D := runF 4 g_need_cases
theorem sc_need_cases : FnScope ["many", "cases", "place", "case"] ["many", "cases"] (defScope (top 12)) := ⟨rfl, rfl, rfl, by decide +kernel, rfl, by decide +kernel, by decide +kernel⟩
theorem df_need_cases (T : TF K mg) : Df P w K mg base (cA K) "need_cases" 3 2 F_need_cases := by
  obtain ⟨fd, FD⟩ := T.says.def_ 3 (d := dF "need_cases" 12) rfl
  refine df_mk (B := noObj) (k := 2) (g := g_need_cases) FD sc_need_cases (FD.bindsN fun _ _ _ _ _ _ us hl => match us, hl with | [_, _], _ => rfl) (T.glo 18) fun cdv A outer s H E G => ?_
  exact (dss_cons (ds_expr (de_call G.toGood (df_need_many T) (by decide) (da_cons (de_var (i := 0) rfl (.inl rfl)) da_nil))) (dss_cons (ds_if (dt_w (dw_or (dt_not (dt_val (de_isi G.toGood.K (T.free 4) (T.free 6) boot_listT (de_var (i := 1) rfl (.inl rfl))))) (dw_or1 (dt_not (dt_chain cLe cLe G.toGood.K de_int (de_len G.toGood.K (T.free 5) (da_cons (de_var (i := 1) rfl (.inl rfl)) da_nil)) (de_gint (T.int 43))))))) (dss_one (ds_raise (n := 2) G (T.exc rfl rfl 49 50))) dss_nil) (dss_one (ds_for G (di_enum G.toGood.K (T.free 2) (da_cons (de_var (i := 1) rfl (.inl rfl)) da_nil)) (dg_tup G.toGood.calm (dgs_cons (dg_name (i := 2) G.toGood.nd rfl (.inl rfl)) (dgs_cons (dg_name (i := 3) G.toGood.nd rfl (.inl rfl)) dgs_nil))) (dss_one (ds_if (dt_w (dw_or (dt_not (dt_val (de_call G.toGood (df_is_case T) (by decide) (da_cons (de_var (i := 0) rfl (.inl rfl)) (da_cons (de_var (i := 3) rfl (.inl rfl)) da_nil))))) (dw_or1 (dt_cmp (cIn G.toGood.room) G.toGood.K (de_var (i := 3) rfl (.inl rfl)) (de_sl G.toGood.K (de_var (i := 1) rfl (.inl rfl)) do_none (do_some (de_var (i := 2) rfl (.inl rfl)))) rfl)))) (dss_one (ds_raise (n := 2) G (T.exc rfl rfl 49 50))) dss_nil))))))
/-! ### is_pan -/
def g_is_pan_L1 : GS noObj := (gIf (tOrD (tNotD (tV (eCall 3 F_is_among (aCons (eVar 3) (aCons (eC (.int 0)) (aCons (e2 dSub (eVar 0) (eC (.int 1))) aNil)))))) (tAndD (tV (e2 dGt (eVar 2) (eC (.int 0)))) (tV (e2 dLe (eVar 3) (e2 dIx (eVar 1) (e2 dSub (eVar 2) (eC (.int 1)))))))) (gRet (eC (.bool false))) gNil)
def g_is_pan : GS noObj := (gSeq (gIf (tOrD (tNotD (tV (e1 (dIsi "tuple") (eVar 1)))) (tV (e2 dEq (eVar 1) (eTup aNil)))) (gRet (eC (.bool false))) gNil) (gSeq (gFor (iEnumD (aCons (eVar 1) aNil)) (gT 2 (gsC (gN 2) (gsC (gN 3) gsN))) g_is_pan_L1) (gRet (eC (.bool true)))))
def F_is_pan : List D → R D := runF 4 g_is_pan
theorem sc_is_pan : FnScope ["many", "thing", "place", "one"] ["many", "thing"] (defScope (top 14)) := ⟨rfl, rfl, rfl, by decide +kernel, rfl, by decide +kernel, by decide +kernel⟩
theorem df_is_pan (T : TF K mg) : Df P w K mg base (cA K) "is_pan" 2 2 F_is_pan := by
  obtain ⟨fd, FD⟩ := T.says.def_ 4 (d := dF "is_pan" 14) rfl
  refine df_mk (B := noObj) (k := 1) (g := g_is_pan) FD sc_is_pan (FD.bindsN fun _ _ _ _ _ _ us hl => match us, hl with | [_, _], _ => rfl) (T.glo 19) fun cdv A outer s H E G => ?_
  exact (dss_cons (ds_if (dt_w (dw_or (dt_not (dt_val (de_isi G.toGood.K (T.free 4) (T.free 13) boot_tupleT (de_var (i := 1) rfl (.inl rfl))))) (dw_or1 (dt_cmp (cEq G.toGood.room) G.toGood.K (de_var (i := 1) rfl (.inl rfl)) (de_tup da_nil) (nomark _))))) (dss_one (ds_ret de_bl)) dss_nil) (dss_cons (ds_for G (di_enum G.toGood.K (T.free 2) (da_cons (de_var (i := 1) rfl (.inl rfl)) da_nil)) (dg_tup G.toGood.calm (dgs_cons (dg_name (i := 2) G.toGood.nd rfl (.inl rfl)) (dgs_cons (dg_name (i := 3) G.toGood.nd rfl (.inl rfl)) dgs_nil))) (dss_one (ds_if (dt_w (dw_or (dt_not (dt_val (de_call G.toGood (df_is_among T) (by decide) (da_cons (de_var (i := 3) rfl (.inl rfl)) (da_cons de_int (da_cons (de_sub (de_var (i := 0) rfl (.inl rfl)) de_int) da_nil)))))) (dw_or1 (dt_w (dw_and (dt_cmp cGt G.toGood.K (de_var (i := 2) rfl (.inl rfl)) de_int (nomark _)) (dw_and1 (dt_cmp cLe G.toGood.K (de_var (i := 3) rfl (.inl rfl)) (de_ix G.toGood.K (de_var (i := 1) rfl (.inl rfl)) (de_sub (de_var (i := 2) rfl (.inl rfl)) de_int)) (nomark _)))))))) (dss_one (ds_ret de_bl)) dss_nil))) (dss_one (ds_ret de_bl))))
/-! ### is_weighing -/
def c_is_weighing_1 : Env noObj → R (List D) := (lLc (iSeq (e2 dIx (eVar 1) (eC (.int 0)))) (gN 2) (tV (e2 dIn (eVar 2) (e2 dIx (eVar 1) (eC (.int 1))))) (eVar 2) [2])
def g_is_weighing : GS noObj := (gSeq (gIf (tOrD (tNotD (tV (e1 (dIsi "tuple") (eVar 1)))) (tOrD (tV (e2 dNe (eA dLen (aCons (eVar 1) aNil)) (eC (.int 2)))) (tOrD (tNotD (tV (eCall 2 F_is_pan (aCons (eVar 0) (aCons (e2 dIx (eVar 1) (eC (.int 0))) aNil))))) (tNotD (tV (eCall 2 F_is_pan (aCons (eVar 0) (aCons (e2 dIx (eVar 1) (eC (.int 1))) aNil)))))))) (gRet (eC (.bool false))) gNil) (gRet (eAnd (e2 dEq (eA dLen (aCons (e2 dIx (eVar 1) (eC (.int 0))) aNil)) (eA dLen (aCons (e2 dIx (eVar 1) (eC (.int 1))) aNil))) (e2 dEq (eL c_is_weighing_1) (eLst aNil)))))
def F_is_weighing : List D → R D := runF 3 g_is_weighing
theorem sc_is_weighing : FnScope ["many", "thing", "one"] ["many", "thing"] (defScope (top 15)) := ⟨rfl, rfl, rfl, by decide +kernel, rfl, by decide +kernel, by decide +kernel⟩
theorem df_is_weighing (T : TF K mg) : Df P w K mg base (cA K) "is_weighing" 3 2 F_is_weighing := by
  obtain ⟨fd, FD⟩ := T.says.def_ 5 (d := dF "is_weighing" 15) rfl
  refine df_mk (B := noObj) (k := 2) (g := g_is_weighing) FD sc_is_weighing (FD.bindsN fun _ _ _ _ _ _ us hl => match us, hl with | [_, _], _ => rfl) (T.glo 20) fun cdv A outer s H E G => ?_
  exact (dss_cons (ds_if (dt_w (dw_or (dt_not (dt_val (de_isi G.toGood.K (T.free 4) (T.free 13) boot_tupleT (de_var (i := 1) rfl (.inr (.inl rfl)))))) (dw_or (dt_cmp (cNe G.toGood.room) G.toGood.K (de_len G.toGood.K (T.free 5) (da_cons (de_var (i := 1) rfl (.inr (.inl rfl))) da_nil)) de_int (nomark _)) (dw_or (dt_not (dt_val (de_call G.toGood (df_is_pan T) (by decide) (da_cons (de_var (i := 0) rfl (.inl rfl)) (da_cons (de_ix G.toGood.K (de_var (i := 1) rfl (.inr (.inl rfl))) de_int) da_nil))))) (dw_or1 (dt_not (dt_val (de_call G.toGood (df_is_pan T) (by decide) (da_cons (de_var (i := 0) rfl (.inl rfl)) (da_cons (de_ix G.toGood.K (de_var (i := 1) rfl (.inr (.inl rfl))) de_int) da_nil)))))))))) (dss_one (ds_ret de_bl)) dss_nil) (dss_one (ds_ret (de_and (de_cmp (cEq G.toGood.room) G.toGood.K (de_len G.toGood.K (T.free 5) (da_cons (de_ix G.toGood.K (de_var (i := 1) rfl (.inr (.inl rfl))) de_int) da_nil)) (de_len G.toGood.K (T.free 5) (da_cons (de_ix G.toGood.K (de_var (i := 1) rfl (.inr (.inl rfl))) de_int) da_nil)) (nomark _)) (de_one (de_cmp (cEq G.toGood.room) G.toGood.K (de_l (dl_lc (own := [("one", 2)]) G.toGood (di_seq G.toGood.K (de_ix G.toGood.K (de_var (i := 1) rfl (.inr (.inl rfl))) de_int)) (blkOk_by (by kernel_rfl)) (fun _ _ _ _ _ => (dg_name (i := 2) G.toGood.nd rfl (.inl rfl))) (by decide) (fun _ _ _ _ _ G1 => (dts_one (dt_cmp (cIn G1.room) G1.K (de_var (i := 2) rfl (.inl rfl)) (de_ix G1.K (de_var (i := 1) rfl (.inr (.inl rfl))) de_int) rfl))) (fun _ _ _ _ _ G1 => (de_var (i := 2) rfl (.inl rfl))))) (de_lst da_nil) (nomark _)))))))
/-! ### came -/
def c_came_1 : Env noObj → R (List D) := (lLc (iSeq (eVar 2)) (gN 5) tYesD (e2 dIx (eVar 1) (eVar 5)) [5])
def c_came_2 : Env noObj → R (List D) := (lLc (iSeq (eVar 3)) (gN 5) tYesD (e2 dIx (eVar 1) (eVar 5)) [5])
def g_came : GS noObj := (gSeq (gTgt (eVar 0) (gT 2 (gsC (gN 2) (gsC (gN 3) gsN)))) (gSeq (gSet 4 (e2 dSub (eA dSum (aCons (eL c_came_1) aNil)) (eA dSum (aCons (eL c_came_2) aNil)))) (gRet (e2 dSub (eA dInt (aCons (e2 dGt (eVar 4) (eC (.int 0))) aNil)) (eA dInt (aCons (e2 dLt (eVar 4) (eC (.int 0))) aNil))))))
def F_came : List D → R D := runF 6 g_came
theorem sc_came : FnScope ["weighing", "case", "left", "right", "more", "one"] ["weighing", "case"] (defScope (top 18)) := ⟨rfl, rfl, rfl, by decide +kernel, rfl, by decide +kernel, by decide +kernel⟩
theorem df_came (T : TF K mg) : Df P w K mg base (cA K) "came" 1 2 F_came := by
  obtain ⟨fd, FD⟩ := T.says.def_ 6 (d := dF "came" 18) rfl
  refine df_mk (B := noObj) (k := 0) (g := g_came) FD sc_came (FD.bindsN fun _ _ _ _ _ _ us hl => match us, hl with | [_, _], _ => rfl) (T.glo 21) fun cdv A outer s H E G => ?_
  exact (dss_cons (ds_tgt G.toGood.K (de_var (i := 0) rfl (.inl rfl)) (dg_tup G.toGood.calm (dgs_cons (dg_name (i := 2) G.toGood.nd rfl (.inl rfl)) (dgs_cons (dg_name (i := 3) G.toGood.nd rfl (.inl rfl)) dgs_nil)))) (dss_cons (ds_set G.toGood.nd rfl (.inl rfl) (de_sub (de_sum G.toGood.K G.toGood.calm (T.free 12) (da_cons (de_l (dl_lc (own := [("one", 5)]) G.toGood (di_seq G.toGood.K (de_var (i := 2) rfl (.inl rfl))) (blkOk_by (by kernel_rfl)) (fun _ _ _ _ _ => (dg_name (i := 5) G.toGood.nd rfl (.inl rfl))) (by decide) (fun _ _ _ _ _ G1 => dts_nil) (fun _ _ _ _ _ G1 => (de_ix G1.K (de_var (i := 1) rfl (.inr (.inl rfl))) (de_var (i := 5) rfl (.inl rfl)))))) da_nil)) (de_sum G.toGood.K G.toGood.calm (T.free 12) (da_cons (de_l (dl_lc (own := [("one", 5)]) G.toGood (di_seq G.toGood.K (de_var (i := 3) rfl (.inl rfl))) (blkOk_by (by kernel_rfl)) (fun _ _ _ _ _ => (dg_name (i := 5) G.toGood.nd rfl (.inl rfl))) (by decide) (fun _ _ _ _ _ G1 => dts_nil) (fun _ _ _ _ _ G1 => (de_ix G1.K (de_var (i := 1) rfl (.inr (.inl rfl))) (de_var (i := 5) rfl (.inl rfl)))))) da_nil)))) (dss_one (ds_ret (de_sub (de_intc (T.free 3) (da_cons (de_cmp cGt G.toGood.K (de_var (i := 4) rfl (.inl rfl)) de_int (nomark _)) da_nil)) (de_intc (T.free 3) (da_cons (de_cmp cLt G.toGood.K (de_var (i := 4) rfl (.inl rfl)) de_int (nomark _)) da_nil)))))))
/-! ### is_done -/
def g_is_done : GS noObj := (gSeq (gIf (tOrD (tNotD (tV (e1 (dIsi "tuple") (eVar 1)))) (tV (e2 dNe (eA dLen (aCons (eVar 1) aNil)) (eC (.int 2))))) (gRet (eC (.bool false))) gNil) (gRet (eAnd (eCall 2 F_is_weighing (aCons (eVar 0) (aCons (e2 dIx (eVar 1) (eC (.int 0))) aNil))) (eCall 3 F_is_among (aCons (e2 dIx (eVar 1) (eC (.int 1))) (aCons (e1 dNeg (eC (.int 1))) (aCons (eC (.int 1)) aNil)))))))
def F_is_done : List D → R D := runF 2 g_is_done
theorem sc_is_done : FnScope ["many", "thing"] ["many", "thing"] (defScope (top 21)) := ⟨rfl, rfl, rfl, by decide +kernel, rfl, by decide +kernel, by decide +kernel⟩
theorem df_is_done (T : TF K mg) : Df P w K mg base (cA K) "is_done" 4 2 F_is_done := by
  obtain ⟨fd, FD⟩ := T.says.def_ 7 (d := dF "is_done" 21) rfl
  refine df_mk (B := noObj) (k := 3) (g := g_is_done) FD sc_is_done (FD.bindsN fun _ _ _ _ _ _ us hl => match us, hl with | [_, _], _ => rfl) (T.glo 22) fun cdv A outer s H E G => ?_
  exact (dss_cons (ds_if (dt_w (dw_or (dt_not (dt_val (de_isi G.toGood.K (T.free 4) (T.free 13) boot_tupleT (de_var (i := 1) rfl (.inl rfl))))) (dw_or1 (dt_cmp (cNe G.toGood.room) G.toGood.K (de_len G.toGood.K (T.free 5) (da_cons (de_var (i := 1) rfl (.inl rfl)) da_nil)) de_int (nomark _))))) (dss_one (ds_ret de_bl)) dss_nil) (dss_one (ds_ret (de_and (de_call G.toGood (df_is_weighing T) (by decide) (da_cons (de_var (i := 0) rfl (.inl rfl)) (da_cons (de_ix G.toGood.K (de_var (i := 1) rfl (.inl rfl)) de_int) da_nil))) (de_one (de_call G.toGood (df_is_among T) (by decide) (da_cons (de_ix G.toGood.K (de_var (i := 1) rfl (.inl rfl)) de_int) (da_cons (de_neg de_int) (da_cons de_int da_nil)))))))))
/-! ### need_done -/
def g_need_done_L1 : GS noObj := (gIf (tNotD (tV (eCall 2 F_is_done (aCons (eVar 0) (aCons (eVar 2) aNil))))) (gExc 3) gNil)
def g_need_done : GS noObj := (gSeq (gIf (tOrD (tNotD (tV (e1 (dIsi "list") (eVar 1)))) (tV (e2 dGt (eA dLen (aCons (eVar 1) aNil)) (eC (.int 20))))) (gExc 3) gNil) (gFor (iSeq (eVar 1)) (gN 2) g_need_done_L1))
def F_need_done : List D → R D := runF 3 g_need_done
theorem sc_need_done : FnScope ["many", "done", "thing"] ["many", "done"] (defScope (top 22)) := ⟨rfl, rfl, rfl, by decide +kernel, rfl, by decide +kernel, by decide +kernel⟩
theorem df_need_done (T : TF K mg) : Df P w K mg base (cA K) "need_done" 5 2 F_need_done := by
  obtain ⟨fd, FD⟩ := T.says.def_ 8 (d := dF "need_done" 22) rfl
  refine df_mk (B := noObj) (k := 4) (g := g_need_done) FD sc_need_done (FD.bindsN fun _ _ _ _ _ _ us hl => match us, hl with | [_, _], _ => rfl) (T.glo 23) fun cdv A outer s H E G => ?_
  exact (dss_cons (ds_if (dt_w (dw_or (dt_not (dt_val (de_isi G.toGood.K (T.free 4) (T.free 6) boot_listT (de_var (i := 1) rfl (.inl rfl))))) (dw_or1 (dt_cmp cGt G.toGood.K (de_len G.toGood.K (T.free 5) (da_cons (de_var (i := 1) rfl (.inl rfl)) da_nil)) (de_gint (T.int 44)) (nomark _))))) (dss_one (ds_raise (n := 3) G (T.exc rfl rfl 51 52))) dss_nil) (dss_one (ds_for G (di_seq G.toGood.K (de_var (i := 1) rfl (.inl rfl))) (dg_name (i := 2) G.toGood.nd rfl (.inl rfl)) (dss_one (ds_if (dt_not (dt_val (de_call G.toGood (df_is_done T) (by decide) (da_cons (de_var (i := 0) rfl (.inl rfl)) (da_cons (de_var (i := 2) rfl (.inl rfl)) da_nil))))) (dss_one (ds_raise (n := 3) G (T.exc rfl rfl 51 52))) dss_nil)))))
/-! ### still_open -/
def c_still_open_1 : Env noObj → R (List D) := (lLc (iSeq (eVar 2)) (gT 2 (gsC (gN 4) (gsC (gN 5) gsN))) tYesD (e2 dEq (eCall 2 F_came (aCons (eVar 4) (aCons (eVar 3) aNil))) (eVar 5)) [4, 5])
def c_still_open_2 : Env noObj → R (List D) := (lLc (iSeq (eVar 1)) (gN 3) (tV (eA dAll (aCons (eL c_still_open_1) aNil))) (eVar 3) [3])
def g_still_open : GS noObj := (gSeq (gDrop (eCall 2 F_need_cases (aCons (eVar 0) (aCons (eVar 1) aNil)))) (gSeq (gDrop (eCall 2 F_need_done (aCons (eVar 0) (aCons (eVar 2) aNil)))) (gRetL c_still_open_2)))
def F_still_open : List D → R (List D) := runL 6 g_still_open
theorem sc_still_open : FnScope ["many", "cases", "done", "case", "weighing", "due"] ["many", "cases", "done"] (defScope (top 23)) := ⟨rfl, rfl, rfl, by decide +kernel, rfl, by decide +kernel, by decide +kernel⟩
theorem df_still_open (T : TF K mg) : DfL P w K mg base (cA K) "still_open" 6 3 F_still_open := by
  obtain ⟨fd, FD⟩ := T.says.def_ 9 (d := dF "still_open" 23) rfl
  refine dfl_mk (B := noObj) (k := 5) (g := g_still_open) FD sc_still_open (FD.bindsN fun _ _ _ _ _ _ us hl => match us, hl with | [_, _, _], _ => rfl) (T.glo 24) fun cdv A outer s H E G => ?_
  exact (dss_cons (ds_expr (de_call G.toGood (df_need_cases T) (by decide) (da_cons (de_var (i := 0) rfl (.inl rfl)) (da_cons (de_var (i := 1) rfl (.inl rfl)) da_nil)))) (dss_cons (ds_expr (de_call G.toGood (df_need_done T) (by decide) (da_cons (de_var (i := 0) rfl (.inl rfl)) (da_cons (de_var (i := 2) rfl (.inr (.inl rfl))) da_nil)))) (dss_one (ds_retL (dl_lc (own := [("case", 3)]) G.toGood (di_seq G.toGood.K (de_var (i := 1) rfl (.inl rfl))) (blkOk_by (by kernel_rfl)) (fun _ _ _ _ _ => (dg_name (i := 3) G.toGood.nd rfl (.inr rfl))) (by decide) (fun _ _ _ _ _ G1 => (dts_one (dt_val (de_all G1.K G1.calm (T.free 0) (da_cons (de_l (dl_lc (own := [("weighing", 4), ("due", 5)]) G1 (di_seq G1.K (de_var (i := 2) rfl (.inr (.inl rfl)))) (blkOk_by (by kernel_rfl)) (fun _ _ _ _ _ => (dg_tup G1.calm (dgs_cons (dg_name (i := 4) G1.nd rfl (.inl rfl)) (dgs_cons (dg_name (i := 5) G1.nd rfl (.inl rfl)) dgs_nil)))) (by decide) (fun _ _ _ _ _ G2 => dts_nil) (fun _ _ _ _ _ G2 => (de_cmp (cEq G2.room) G2.K (de_call G2 (df_came T) (by decide) (da_cons (de_var (i := 4) rfl (.inl rfl)) (da_cons (de_var (i := 3) rfl (.inr (.inl rfl))) da_nil))) (de_var (i := 5) rfl (.inl rfl)) (nomark _))))) da_nil))))) (fun _ _ _ _ _ G1 => (de_var (i := 3) rfl (.inr (.inl rfl)))))))))
/-! ### told -/
def g_told : GS noObj := (gSeq (gSet 3 (eCall 3 (listR F_still_open) (aCons (eVar 0) (aCons (eVar 1) (aCons (eVar 2) aNil))))) gDead)
def F_told : List D → R D := runF 9 g_told
theorem sc_told : FnScope ["many", "cases", "done", "some", "search", "pair", "number", "every", "hold"] ["many", "cases", "done"] (defScope (top 30)) := ⟨rfl, rfl, rfl, by decide +kernel, rfl, by decide +kernel, by decide +kernel⟩
theorem df_told (T : TF K mg) : Df P w K mg base (cA K) "told" 7 3 F_told := by
  obtain ⟨fd, FD⟩ := T.says.def_ 10 (d := dF "told" 30) rfl
  refine df_mk (B := noObj) (k := 6) (g := g_told) FD sc_told (FD.bindsN fun _ _ _ _ _ _ us hl => match us, hl with | [_, _, _], _ => rfl) (T.glo 25) fun cdv A outer s H E G => ?_
  exact (dss_cons (ds_set G.toGood.nd rfl (.inl rfl) (de_call G.toGood (DfS.toD (df_still_open T)) (by decide) (da_cons (de_var (i := 0) rfl (.inl rfl)) (da_cons (de_var (i := 1) rfl (.inl rfl)) (da_cons (de_var (i := 2) rfl (.inl rfl)) da_nil))))) dss_dead)
/-! ### least -/
def g_least : GS noObj := (gSeq (gSet 3 (eCall 3 (listR F_still_open) (aCons (eVar 0) (aCons (eVar 1) (aCons (eVar 2) aNil))))) gDead)
def F_least : List D → R D := runF 5 g_least
theorem sc_least : FnScope ["many", "cases", "done", "some", "search"] ["many", "cases", "done"] (defScope (top 31)) := ⟨rfl, rfl, rfl, by decide +kernel, rfl, by decide +kernel, by decide +kernel⟩
theorem df_least (T : TF K mg) : Df P w K mg base (cA K) "least" 7 3 F_least := by
  obtain ⟨fd, FD⟩ := T.says.def_ 11 (d := dF "least" 31) rfl
  refine df_mk (B := noObj) (k := 6) (g := g_least) FD sc_least (FD.bindsN fun _ _ _ _ _ _ us hl => match us, hl with | [_, _, _], _ => rfl) (T.glo 26) fun cdv A outer s H E G => ?_
  exact (dss_cons (ds_set G.toGood.nd rfl (.inl rfl) (de_call G.toGood (DfS.toD (df_still_open T)) (by decide) (da_cons (de_var (i := 0) rfl (.inl rfl)) (da_cons (de_var (i := 1) rfl (.inl rfl)) (da_cons (de_var (i := 2) rfl (.inl rfl)) da_nil))))) dss_dead)
/-! ### _law_cell_at -/
def g__law_cell_at : GS noObj := (gSeq (gIf (tV (e2 dLt (eVar 1) (eA dLen (aCons (eVar 0) aNil)))) (gRet (e2 dIx (eVar 0) (eVar 1))) gNil) (gRet (eC (.int 0))))
def F__law_cell_at : List D → R D := runF 2 g__law_cell_at
theorem sc__law_cell_at : FnScope ["_law_script", "_law_k"] ["_law_script", "_law_k"] (defScope (top 33)) := ⟨rfl, rfl, rfl, by decide +kernel, rfl, by decide +kernel, by decide +kernel⟩
theorem df__law_cell_at (T : TF K mg) : Df P w K mg base (cA K) "_law_cell_at" 1 2 F__law_cell_at := by
  obtain ⟨fd, FD⟩ := T.says.def_ 12 (d := dF "_law_cell_at" 33) rfl
  refine df_mk (B := noObj) (k := 0) (g := g__law_cell_at) FD sc__law_cell_at (FD.bindsN fun _ _ _ _ _ _ us hl => match us, hl with | [_, _], _ => rfl) (T.glo 27) fun cdv A outer s H E G => ?_
  exact (dss_cons (ds_if (dt_cmp cLt G.toGood.K (de_var (i := 1) rfl (.inl rfl)) (de_len G.toGood.K (T.free 5) (da_cons (de_var (i := 0) rfl (.inl rfl)) da_nil)) (nomark _)) (dss_one (ds_ret (de_ix G.toGood.K (de_var (i := 0) rfl (.inl rfl)) (de_var (i := 1) rfl (.inl rfl))))) dss_nil) (dss_one (ds_ret de_int)))
/-! ### _law_mixed -/
def g__law_mixed : GS noObj := (gRet (e2 dDiv (e2 dMod (e2 dMul (e2 dAdd (e2 dAdd (eCall 2 F__law_cell_at (aCons (eVar 0) (aCons (eVar 1) aNil))) (e2 dMul (eC (.int 7919)) (eVar 1))) (eC (.int 13))) (eC (.int 48271))) (eC (.int 2147483647))) (eC (.int 3))))
def F__law_mixed : List D → R D := runF 2 g__law_mixed
theorem sc__law_mixed : FnScope ["_law_script", "_law_k"] ["_law_script", "_law_k"] (defScope (top 34)) := ⟨rfl, rfl, rfl, by decide +kernel, rfl, by decide +kernel, by decide +kernel⟩
theorem df__law_mixed (T : TF K mg) : Df P w K mg base (cA K) "_law_mixed" 2 2 F__law_mixed := by
  obtain ⟨fd, FD⟩ := T.says.def_ 13 (d := dF "_law_mixed" 34) rfl
  refine df_mk (B := noObj) (k := 1) (g := g__law_mixed) FD sc__law_mixed (FD.bindsN fun _ _ _ _ _ _ us hl => match us, hl with | [_, _], _ => rfl) (T.glo 28) fun cdv A outer s H E G => ?_
  exact (dss_one (ds_ret (de_div (de_mod (de_mul G.toGood.K (de_add G.toGood.K (de_add G.toGood.K (de_call G.toGood (df__law_cell_at T) (by decide) (da_cons (de_var (i := 0) rfl (.inl rfl)) (da_cons (de_var (i := 1) rfl (.inl rfl)) da_nil))) (de_mul G.toGood.K de_int (de_var (i := 1) rfl (.inl rfl)))) de_int) de_int) de_int) de_int)))
/-! ### _law_whole -/
def g__law_whole : GS noObj := (gRet (eAnd (e1 (dIsi "int") (eVar 0)) (eNot (e1 (dIsi "bool") (eVar 0)))))
def F__law_whole : List D → R D := runF 1 g__law_whole
theorem sc__law_whole : FnScope ["_law_found"] ["_law_found"] (defScope (top 35)) := ⟨rfl, rfl, rfl, by decide +kernel, rfl, by decide +kernel, by decide +kernel⟩
theorem df__law_whole (T : TF K mg) : Df P w K mg base (cA K) "_law_whole" 1 1 F__law_whole := by
  obtain ⟨fd, FD⟩ := T.says.def_ 14 (d := dF "_law_whole" 35) rfl
  refine df_mk (B := noObj) (k := 0) (g := g__law_whole) FD sc__law_whole (FD.bindsN fun _ _ _ _ _ _ us hl => match us, hl with | [_], _ => rfl) (T.glo 29) fun cdv A outer s H E G => ?_
  exact (dss_one (ds_ret (de_and (de_isi G.toGood.K (T.free 4) (T.free 3) boot_intT (de_var (i := 0) rfl (.inl rfl))) (de_one (de_not (de_isi G.toGood.K (T.free 4) (T.free 1) boot_boolT (de_var (i := 0) rfl (.inl rfl))))))))
/-! ### _law_came -/
def g__law_came_L1 : GS noObj := (gSet 2 (e2 dAdd (eVar 2) (e2 dIx (eVar 1) (eVar 3))))
def g__law_came_L2 : GS noObj := (gSet 2 (e2 dSub (eVar 2) (e2 dIx (eVar 1) (eVar 3))))
def g__law_came : GS noObj := (gSeq (gSet 2 (eC (.int 0))) (gSeq (gFor (iSeq (e2 dIx (eVar 0) (eC (.int 0)))) (gN 3) g__law_came_L1) (gSeq (gFor (iSeq (e2 dIx (eVar 0) (eC (.int 1)))) (gN 3) g__law_came_L2) (gRet (eIf (tV (e2 dGt (eVar 2) (eC (.int 0)))) (eC (.int 1)) (eIf (tV (e2 dLt (eVar 2) (eC (.int 0)))) (e1 dNeg (eC (.int 1))) (eC (.int 0))))))))
def F__law_came : List D → R D := runF 4 g__law_came
theorem sc__law_came : FnScope ["_law_weighing", "_law_case", "_law_more", "_law_one"] ["_law_weighing", "_law_case"] (defScope (top 36)) := ⟨rfl, rfl, rfl, by decide +kernel, rfl, by decide +kernel, by decide +kernel⟩
theorem df__law_came (T : TF K mg) : Df P w K mg base (cA K) "_law_came" 1 2 F__law_came := by
  obtain ⟨fd, FD⟩ := T.says.def_ 15 (d := dF "_law_came" 36) rfl
  refine df_mk (B := noObj) (k := 0) (g := g__law_came) FD sc__law_came (FD.bindsN fun _ _ _ _ _ _ us hl => match us, hl with | [_, _], _ => rfl) (T.glo 30) fun cdv A outer s H E G => ?_
  exact (dss_cons (ds_set G.toGood.nd rfl (.inl rfl) de_int) (dss_cons (ds_for G (di_seq G.toGood.K (de_ix G.toGood.K (de_var (i := 0) rfl (.inl rfl)) de_int)) (dg_name (i := 3) G.toGood.nd rfl (.inl rfl)) (dss_one (ds_set G.toGood.nd rfl (.inl rfl) (de_add G.toGood.K (de_var (i := 2) rfl (.inl rfl)) (de_ix G.toGood.K (de_var (i := 1) rfl (.inl rfl)) (de_var (i := 3) rfl (.inl rfl))))))) (dss_cons (ds_for G (di_seq G.toGood.K (de_ix G.toGood.K (de_var (i := 0) rfl (.inl rfl)) de_int)) (dg_name (i := 3) G.toGood.nd rfl (.inl rfl)) (dss_one (ds_set G.toGood.nd rfl (.inl rfl) (de_sub (de_var (i := 2) rfl (.inl rfl)) (de_ix G.toGood.K (de_var (i := 1) rfl (.inl rfl)) (de_var (i := 3) rfl (.inl rfl))))))) (dss_one (ds_ret (de_if (dt_cmp cGt G.toGood.K (de_var (i := 2) rfl (.inl rfl)) de_int (nomark _)) de_int (de_if (dt_cmp cLt G.toGood.K (de_var (i := 2) rfl (.inl rfl)) de_int (nomark _)) (de_neg de_int) de_int)))))))
/-! ### _law_pans -/
def c__law_pans_1 : Env noObj → R (List D) := (lLc (iRng1 (aCons (eVar 0) aNil)) (gN 6) tYesD (e2 dMod (e2 dDiv (eVar 2) (e2 dIx (eLst (aCons (eC (.int 1)) (aCons (eC (.int 3)) (aCons (eC (.int 9)) (aCons (eC (.int 27)) (aCons (eC (.int 81)) aNil)))))) (eVar 6))) (eC (.int 3))) [6])
def c__law_pans_2 : Env noObj → R (List D) := (lLc (iRng1 (aCons (eVar 0) aNil)) (gN 6) (tV (e2 dEq (e2 dIx (eVar 3) (eVar 6)) (eC (.int 1)))) (eVar 6) [6])
def c__law_pans_3 : Env noObj → R (List D) := (lLc (iRng1 (aCons (eVar 0) aNil)) (gN 6) (tV (e2 dEq (e2 dIx (eVar 3) (eVar 6)) (eC (.int 2)))) (eVar 6) [6])
def g__law_pans_L1 : GS noObj := (gSeq (gSet 3 (eL c__law_pans_1)) (gSeq (gSet 4 (eA dTuple (aCons (eL c__law_pans_2) aNil))) (gSeq (gSet 5 (eA dTuple (aCons (eL c__law_pans_3) aNil))) (gIf (tAndD (tV (e2 dEq (eA dLen (aCons (eVar 4) aNil)) (eA dLen (aCons (eVar 5) aNil)))) (tAndD (tV (e2 dNe (eVar 4) (eTup aNil))) (tV (e2 dLt (e2 dIx (eVar 4) (eC (.int 0))) (e2 dIx (eVar 5) (eC (.int 0))))))) (gApp 1 (eTup (aCons (eVar 4) (aCons (eVar 5) aNil)))) gNil))))
def g__law_pans : GS noObj := (gSeq (gOwn 1 (lDisp aNil)) (gSeq (gFor (iRng1 (aCons (e2 dIx (eLst (aCons (eC (.int 9)) (aCons (eC (.int 27)) (aCons (eC (.int 81)) (aCons (eC (.int 243)) aNil))))) (e2 dSub (eVar 0) (eC (.int 2)))) aNil)) (gN 2) g__law_pans_L1) (gFrz 1 (gRetL (eSorted (aCons (eVar 1) aNil))))))
def F__law_pans : List D → R (List D) := runL 7 g__law_pans
theorem sc__law_pans : FnScope ["_law_many", "_law_found", "_law_number", "_law_sides", "_law_left", "_law_right", "_law_one"] ["_law_many"] (defScope (top 37)) := ⟨rfl, rfl, rfl, by decide +kernel, rfl, by decide +kernel, by decide +kernel⟩
theorem df__law_pans (T : TF K mg) : DfL P w K mg base (cA K) "_law_pans" 1 1 F__law_pans := by
  obtain ⟨fd, FD⟩ := T.says.def_ 16 (d := dF "_law_pans" 37) rfl
  refine dfl_mk (B := noObj) (k := 0) (g := g__law_pans) FD sc__law_pans (FD.bindsN fun _ _ _ _ _ _ us hl => match us, hl with | [_], _ => rfl) (T.glo 31) fun cdv A outer s H E G => ?_
  exact (dss_cons (ds_own G.toGood.nd rfl (.inl rfl) (dl_lst da_nil)) (dss_cons (ds_for G (di_range1 (T.free 8) (da_cons (de_ix G.toGood.K (de_lst (da_cons de_int (da_cons de_int (da_cons de_int (da_cons de_int da_nil))))) (de_sub (de_var (i := 0) rfl (.inl rfl)) de_int)) da_nil)) (dg_name (i := 2) G.toGood.nd rfl (.inr rfl)) (dss_cons (ds_set G.toGood.nd rfl (.inr rfl) (de_l (dl_lc (own := [("_law_one", 6)]) G.toGood (di_range1 (T.free 8) (da_cons (de_var (i := 0) rfl (.inl rfl)) da_nil)) (blkOk_by (by kernel_rfl)) (fun _ _ _ _ _ => (dg_name (i := 6) G.toGood.nd rfl (.inl rfl))) (by decide) (fun _ _ _ _ _ G1 => dts_nil) (fun _ _ _ _ _ G1 => (de_mod (de_div (de_var (i := 2) rfl (.inr (.inl rfl))) (de_ix G1.K (de_lst (da_cons de_int (da_cons de_int (da_cons de_int (da_cons de_int (da_cons de_int da_nil)))))) (de_var (i := 6) rfl (.inl rfl)))) de_int))))) (dss_cons (ds_set G.toGood.nd rfl (.inl rfl) (de_tuple G.toGood.K (T.free 13) (da_cons (de_l (dl_lc (own := [("_law_one", 6)]) G.toGood (di_range1 (T.free 8) (da_cons (de_var (i := 0) rfl (.inl rfl)) da_nil)) (blkOk_by (by kernel_rfl)) (fun _ _ _ _ _ => (dg_name (i := 6) G.toGood.nd rfl (.inl rfl))) (by decide) (fun _ _ _ _ _ G1 => (dts_one (dt_cmp (cEq G1.room) G1.K (de_ix G1.K (de_var (i := 3) rfl (.inr (.inl rfl))) (de_var (i := 6) rfl (.inl rfl))) de_int (nomark _)))) (fun _ _ _ _ _ G1 => (de_var (i := 6) rfl (.inl rfl))))) da_nil))) (dss_cons (ds_set G.toGood.nd rfl (.inl rfl) (de_tuple G.toGood.K (T.free 13) (da_cons (de_l (dl_lc (own := [("_law_one", 6)]) G.toGood (di_range1 (T.free 8) (da_cons (de_var (i := 0) rfl (.inl rfl)) da_nil)) (blkOk_by (by kernel_rfl)) (fun _ _ _ _ _ => (dg_name (i := 6) G.toGood.nd rfl (.inl rfl))) (by decide) (fun _ _ _ _ _ G1 => (dts_one (dt_cmp (cEq G1.room) G1.K (de_ix G1.K (de_var (i := 3) rfl (.inr (.inl rfl))) (de_var (i := 6) rfl (.inl rfl))) de_int (nomark _)))) (fun _ _ _ _ _ G1 => (de_var (i := 6) rfl (.inl rfl))))) da_nil))) (dss_one (ds_if (dt_w (dw_and (dt_cmp (cEq G.toGood.room) G.toGood.K (de_len G.toGood.K (T.free 5) (da_cons (de_var (i := 4) rfl (.inl rfl)) da_nil)) (de_len G.toGood.K (T.free 5) (da_cons (de_var (i := 5) rfl (.inl rfl)) da_nil)) (nomark _)) (dw_and (dt_cmp (cNe G.toGood.room) G.toGood.K (de_var (i := 4) rfl (.inl rfl)) (de_tup da_nil) (nomark _)) (dw_and1 (dt_cmp cLt G.toGood.K (de_ix G.toGood.K (de_var (i := 4) rfl (.inl rfl)) de_int) (de_ix G.toGood.K (de_var (i := 5) rfl (.inl rfl)) de_int) (nomark _)))))) (dss_one (ds_app (i := 1) rfl (.inl rfl) (de_tup (da_cons (de_var (i := 4) rfl (.inl rfl)) (da_cons (de_var (i := 5) rfl (.inl rfl)) da_nil))))) dss_nil)))))) (dss_frz 1 (dss_one (ds_retL (dl_sorted G.toGood (T.free 10) (da_cons (de_var (i := 1) rfl (.inl rfl)) da_nil)))))))
/-! ### _law_pool -/
def g__law_pool_L1 : GS noObj := (gSeq (gOwn 5 (lRep (eLst (aCons (eC (.int 0)) aNil)) (eVar 0))) (gSeq (gPut 5 (eVar 3) (e2 dIx (eLst (aCons (eC (.int 1)) (aCons (e1 dNeg (eC (.int 1))) (aCons (e2 dIx (eLst (aCons (eC (.int 1)) (aCons (e1 dNeg (eC (.int 1))) aNil))) (e2 dMod (eVar 4) (eC (.int 2)))) (aCons (eC (.int 1)) (aCons (eC (.int 1)) aNil)))))) (eVar 1))) (gSeq (gIf (tAndD (tV (e2 dGt (eVar 1) (eC (.int 2)))) (tV (e2 dNe (eVar 3) (eVar 4)))) (gPut 5 (eVar 4) (e2 dIx (eLst (aCons (eC (.int 1)) (aCons (e1 dNeg (eC (.int 1))) aNil))) (e2 dSub (eVar 1) (eC (.int 3))))) gNil) (gFrz 5 (gIf (tBor 2 (tAndD (tV (e2 dNotIn (eA dTuple (aCons (eVar 5) aNil)) (eVar 2))) (tOrD (tV (e2 dLt (eVar 1) (eC (.int 3)))) (tV (e2 dNe (eVar 3) (eVar 4)))))) (gApp 2 (eA dTuple (aCons (eVar 5) aNil))) gNil)))))
def g__law_pool_L2 : GS noObj := (gFor (iRng1 (aCons (eVar 0) aNil)) (gN 4) g__law_pool_L1)
def g__law_pool : GS noObj := (gSeq (gOwn 2 (lDisp aNil)) (gSeq (gFor (iRng1 (aCons (eVar 0) aNil)) (gN 3) g__law_pool_L2) (gSeq (gIf (tV (e2 dEq (eVar 1) (eC (.int 2)))) (gApp 2 (e2 dMul (eTup (aCons (eC (.int 0)) aNil)) (eVar 0))) gNil) (gRetO 2))))
def F__law_pool : List D → R (List D) := runL 6 g__law_pool
theorem sc__law_pool : FnScope ["_law_many", "_law_kind", "_law_found", "_law_one", "_law_other", "_law_case"] ["_law_many", "_law_kind"] (defScope (top 38)) := ⟨rfl, rfl, rfl, by decide +kernel, rfl, by decide +kernel, by decide +kernel⟩
theorem df__law_pool (T : TF K mg) : DfL P w K mg base (cA K) "_law_pool" 1 2 F__law_pool := by
  obtain ⟨fd, FD⟩ := T.says.def_ 17 (d := dF "_law_pool" 38) rfl
  refine dfl_mk (B := noObj) (k := 0) (g := g__law_pool) FD sc__law_pool (FD.bindsN fun _ _ _ _ _ _ us hl => match us, hl with | [_, _], _ => rfl) (T.glo 32) fun cdv A outer s H E G => ?_
  exact (dss_cons (ds_own G.toGood.nd rfl (.inl rfl) (dl_lst da_nil)) (dss_cons (ds_for G (di_range1 (T.free 8) (da_cons (de_var (i := 0) rfl (.inl rfl)) da_nil)) (dg_name (i := 3) G.toGood.nd rfl (.inl rfl)) (dss_one (ds_for G (di_range1 (T.free 8) (da_cons (de_var (i := 0) rfl (.inl rfl)) da_nil)) (dg_name (i := 4) G.toGood.nd rfl (.inl rfl)) (dss_cons (ds_own G.toGood.nd rfl (.inl rfl) (dl_rep (de_lst (da_cons de_int da_nil)) (de_var (i := 0) rfl (.inl rfl)))) (dss_cons (ds_put (i := 5) rfl (.inl rfl) (de_var (i := 3) rfl (.inl rfl)) (de_ix G.toGood.K (de_lst (da_cons de_int (da_cons (de_neg de_int) (da_cons (de_ix G.toGood.K (de_lst (da_cons de_int (da_cons (de_neg de_int) da_nil))) (de_mod (de_var (i := 4) rfl (.inl rfl)) de_int)) (da_cons de_int (da_cons de_int da_nil)))))) (de_var (i := 1) rfl (.inl rfl)))) (dss_cons (ds_if (dt_w (dw_and (dt_cmp cGt G.toGood.K (de_var (i := 1) rfl (.inl rfl)) de_int (nomark _)) (dw_and1 (dt_cmp (cNe G.toGood.room) G.toGood.K (de_var (i := 3) rfl (.inl rfl)) (de_var (i := 4) rfl (.inl rfl)) (nomark _))))) (dss_one (ds_put (i := 5) rfl (.inl rfl) (de_var (i := 4) rfl (.inl rfl)) (de_ix G.toGood.K (de_lst (da_cons de_int (da_cons (de_neg de_int) da_nil))) (de_sub (de_var (i := 1) rfl (.inl rfl)) de_int)))) dss_nil) (dss_frz 5 (dss_one (ds_if (dt_bor 2 (dt_w (dw_and (dt_cmp (cNotIn G.toGood.room) G.toGood.K (de_tuple G.toGood.K (T.free 13) (da_cons (de_var (i := 5) rfl (.inl rfl)) da_nil)) (de_var (i := 2) rfl (.inl rfl)) rfl) (dw_and1 (dt_w (dw_or (dt_cmp cLt G.toGood.K (de_var (i := 1) rfl (.inl rfl)) de_int (nomark _)) (dw_or1 (dt_cmp (cNe G.toGood.room) G.toGood.K (de_var (i := 3) rfl (.inl rfl)) (de_var (i := 4) rfl (.inl rfl)) (nomark _))))))))) (dss_one (ds_app (i := 2) rfl (.inl rfl) (de_tuple G.toGood.K (T.free 13) (da_cons (de_var (i := 5) rfl (.inl rfl)) da_nil)))) dss_nil))))))))) (dss_cons (ds_if (dt_cmp (cEq G.toGood.room) G.toGood.K (de_var (i := 1) rfl (.inl rfl)) de_int (nomark _)) (dss_one (ds_app (i := 2) rfl (.inl rfl) (de_mul G.toGood.K (de_tup (da_cons de_int da_nil)) (de_var (i := 0) rfl (.inl rfl))))) dss_nil) (dss_one (ds_retO (i := 2) rfl (.inl rfl))))))
/-! ### _law_puzzle -/
def c__law_puzzle_1 : Env noObj → R (List D) := (lLc (iRng1 (aCons (eVar 4) aNil)) (gN 11) tYesD (e2 dSub (e2 dMod (e2 dDiv (eVar 8) (e2 dIx (eLst (aCons (eC (.int 1)) (aCons (eC (.int 3)) (aCons (eC (.int 9)) (aCons (eC (.int 27)) (aCons (eC (.int 81)) aNil)))))) (eVar 11))) (eC (.int 3))) (eC (.int 1))) [11])
def g__law_puzzle_L1 : GS noObj := (gSeq (gSet 8 (eCall 2 F__law_mixed (aCons (eVar 0) (aCons (e2 dAdd (e2 dAdd (eVar 1) (eC (.int 1))) (eVar 7)) aNil)))) (gApp 6 (eA dTuple (aCons (eL c__law_puzzle_1) aNil))))
def g__law_puzzle_L2 : GS noObj := (gSeq (gSet 10 (e2 dIx (eVar 6) (e2 dMod (e2 dAdd (e2 dDiv (eVar 8) (eC (.int 8))) (e2 dMul (eVar 7) (e2 dAdd (eC (.int 1)) (e2 dMod (e2 dDiv (eVar 8) (eC (.int 64))) (eC (.int 2)))))) (eA dLen (aCons (eVar 6) aNil))))) (gIf (tBor 9 (tV (e2 dNotIn (eVar 10) (eVar 9)))) (gApp 9 (eVar 10)) gNil))
def g__law_puzzle : GS noObj := (gSeq (gSet 3 (eCall 2 F__law_mixed (aCons (eVar 0) (aCons (eVar 1) aNil)))) (gSeq (gSet 4 (eA dMin (aCons (eVar 2) (aCons (e2 dIx (eLst (aCons (eC (.int 2)) (aCons (eC (.int 3)) (aCons (eC (.int 3)) (aCons (eC (.int 4)) (aCons (eC (.int 4)) (aCons (eC (.int 5)) aNil))))))) (e2 dMod (eVar 3) (eC (.int 6)))) aNil)))) (gSeq (gSet 5 (e2 dIx (eLst (aCons (eC (.int 9)) (aCons (eC (.int 12)) (aCons (eC (.int 8)) (aCons (eC (.int 5)) aNil))))) (e2 dSub (eVar 4) (eC (.int 2))))) (gSeq (gOwn 6 (lDisp aNil)) (gSeq (gFor (iRng1 (aCons (eC (.int 12)) aNil)) (gN 7) g__law_puzzle_L1) (gFrz 6 (gSeq (gIf (tV (e2 dGt (e2 dMod (e2 dDiv (eVar 3) (eC (.int 6))) (eC (.int 6))) (eC (.int 0)))) (gSet 6 (eCall 2 (listR F__law_pool) (aCons (eVar 4) (aCons (e2 dSub (e2 dMod (e2 dDiv (eVar 3) (eC (.int 6))) (eC (.int 6))) (eC (.int 1))) aNil)))) gNil) (gSeq (gOwn 9 (lDisp aNil)) (gSeq (gSet 8 (e2 dDiv (eVar 3) (eC (.int 36)))) (gSeq (gIf (tAndD (tV (e2 dGt (eVar 4) (eC (.int 3)))) (tAndD (tV (e2 dEq (e2 dMod (e2 dDiv (eVar 8) (eC (.int 256))) (eC (.int 4))) (eC (.int 1)))) (tV (e2 dGt (e2 dMod (e2 dDiv (eVar 3) (eC (.int 6))) (eC (.int 6))) (eC (.int 0)))))) (gSet 5 (eC (.int 12))) gNil) (gSeq (gFor (iRng1 (aCons (e2 dIx (eLst (aCons (e2 dAdd (eC (.int 1)) (e2 dMod (eVar 8) (eVar 5))) (aCons (eVar 5) aNil))) (eA dInt (aCons (eAnd (e2 dEq (eVar 5) (eC (.int 12))) (e2 dGt (eVar 4) (eC (.int 3)))) aNil))) aNil)) (gN 7) g__law_puzzle_L2) (gFrz 9 (gRet (eTup (aCons (eVar 4) (aCons (eVar 9) aNil))))))))))))))))
def F__law_puzzle : List D → R D := runF 12 g__law_puzzle
theorem sc__law_puzzle : FnScope ["_law_script", "_law_at", "_law_greatest", "_law_first", "_law_many", "_law_most", "_law_pool_here", "_law_k", "_law_number", "_law_found", "_law_case", "_law_one"] ["_law_script", "_law_at", "_law_greatest"] (defScope (top 39)) := ⟨rfl, rfl, rfl, by decide +kernel, rfl, by decide +kernel, by decide +kernel⟩
theorem df__law_puzzle (T : TF K mg) : Df P w K mg base (cA K) "_law_puzzle" 3 3 F__law_puzzle := by
  obtain ⟨fd, FD⟩ := T.says.def_ 18 (d := dF "_law_puzzle" 39) rfl
  refine df_mk (B := noObj) (k := 2) (g := g__law_puzzle) FD sc__law_puzzle (FD.bindsN fun _ _ _ _ _ _ us hl => match us, hl with | [_, _, _], _ => rfl) (T.glo 33) fun cdv A outer s H E G => ?_
  exact (dss_cons (ds_set G.toGood.nd rfl (.inl rfl) (de_call G.toGood (df__law_mixed T) (by decide) (da_cons (de_var (i := 0) rfl (.inl rfl)) (da_cons (de_var (i := 1) rfl (.inl rfl)) da_nil)))) (dss_cons (ds_set G.toGood.nd rfl (.inl rfl) (de_min G.toGood.K G.toGood.calm (T.free 7) (da_cons (de_var (i := 2) rfl (.inl rfl)) (da_cons (de_ix G.toGood.K (de_lst (da_cons de_int (da_cons de_int (da_cons de_int (da_cons de_int (da_cons de_int (da_cons de_int da_nil))))))) (de_mod (de_var (i := 3) rfl (.inl rfl)) de_int)) da_nil)))) (dss_cons (ds_set G.toGood.nd rfl (.inl rfl) (de_ix G.toGood.K (de_lst (da_cons de_int (da_cons de_int (da_cons de_int (da_cons de_int da_nil))))) (de_sub (de_var (i := 4) rfl (.inl rfl)) de_int))) (dss_cons (ds_own G.toGood.nd rfl (.inl rfl) (dl_lst da_nil)) (dss_cons (ds_for G (di_range1 (T.free 8) (da_cons de_int da_nil)) (dg_name (i := 7) G.toGood.nd rfl (.inl rfl)) (dss_cons (ds_set G.toGood.nd rfl (.inr rfl) (de_call G.toGood (df__law_mixed T) (by decide) (da_cons (de_var (i := 0) rfl (.inl rfl)) (da_cons (de_add G.toGood.K (de_add G.toGood.K (de_var (i := 1) rfl (.inl rfl)) de_int) (de_var (i := 7) rfl (.inl rfl))) da_nil)))) (dss_one (ds_app (i := 6) rfl (.inl rfl) (de_tuple G.toGood.K (T.free 13) (da_cons (de_l (dl_lc (own := [("_law_one", 11)]) G.toGood (di_range1 (T.free 8) (da_cons (de_var (i := 4) rfl (.inl rfl)) da_nil)) (blkOk_by (by kernel_rfl)) (fun _ _ _ _ _ => (dg_name (i := 11) G.toGood.nd rfl (.inl rfl))) (by decide) (fun _ _ _ _ _ G1 => dts_nil) (fun _ _ _ _ _ G1 => (de_sub (de_mod (de_div (de_var (i := 8) rfl (.inr (.inl rfl))) (de_ix G1.K (de_lst (da_cons de_int (da_cons de_int (da_cons de_int (da_cons de_int (da_cons de_int da_nil)))))) (de_var (i := 11) rfl (.inl rfl)))) de_int) de_int)))) da_nil)))))) (dss_frz 6 (dss_cons (ds_if (dt_cmp cGt G.toGood.K (de_mod (de_div (de_var (i := 3) rfl (.inl rfl)) de_int) de_int) de_int (nomark _)) (dss_one (ds_set G.toGood.nd rfl (.inl rfl) (de_call G.toGood (DfS.toD (df__law_pool T)) (by decide) (da_cons (de_var (i := 4) rfl (.inl rfl)) (da_cons (de_sub (de_mod (de_div (de_var (i := 3) rfl (.inl rfl)) de_int) de_int) de_int) da_nil))))) dss_nil) (dss_cons (ds_own G.toGood.nd rfl (.inl rfl) (dl_lst da_nil)) (dss_cons (ds_set G.toGood.nd rfl (.inr rfl) (de_div (de_var (i := 3) rfl (.inl rfl)) de_int)) (dss_cons (ds_if (dt_w (dw_and (dt_cmp cGt G.toGood.K (de_var (i := 4) rfl (.inl rfl)) de_int (nomark _)) (dw_and (dt_cmp (cEq G.toGood.room) G.toGood.K (de_mod (de_div (de_var (i := 8) rfl (.inr (.inl rfl))) de_int) de_int) de_int (nomark _)) (dw_and1 (dt_cmp cGt G.toGood.K (de_mod (de_div (de_var (i := 3) rfl (.inl rfl)) de_int) de_int) de_int (nomark _)))))) (dss_one (ds_set G.toGood.nd rfl (.inl rfl) de_int)) dss_nil) (dss_cons (ds_for G (di_range1 (T.free 8) (da_cons (de_ix G.toGood.K (de_lst (da_cons (de_add G.toGood.K de_int (de_mod (de_var (i := 8) rfl (.inr (.inl rfl))) (de_var (i := 5) rfl (.inl rfl)))) (da_cons (de_var (i := 5) rfl (.inl rfl)) da_nil))) (de_intc (T.free 3) (da_cons (de_and (de_cmp (cEq G.toGood.room) G.toGood.K (de_var (i := 5) rfl (.inl rfl)) de_int (nomark _)) (de_one (de_cmp cGt G.toGood.K (de_var (i := 4) rfl (.inl rfl)) de_int (nomark _)))) da_nil))) da_nil)) (dg_name (i := 7) G.toGood.nd rfl (.inl rfl)) (dss_cons (ds_set G.toGood.nd rfl (.inl rfl) (de_ix G.toGood.K (de_var (i := 6) rfl (.inl rfl)) (de_mod (de_add G.toGood.K (de_div (de_var (i := 8) rfl (.inr (.inl rfl))) de_int) (de_mul G.toGood.K (de_var (i := 7) rfl (.inl rfl)) (de_add G.toGood.K de_int (de_mod (de_div (de_var (i := 8) rfl (.inr (.inl rfl))) de_int) de_int)))) (de_len G.toGood.K (T.free 5) (da_cons (de_var (i := 6) rfl (.inl rfl)) da_nil))))) (dss_one (ds_if (dt_bor 9 (dt_cmp (cNotIn G.toGood.room) G.toGood.K (de_var (i := 10) rfl (.inl rfl)) (de_var (i := 9) rfl (.inl rfl)) rfl)) (dss_one (ds_app (i := 9) rfl (.inl rfl) (de_var (i := 10) rfl (.inl rfl)))) dss_nil)))) (dss_frz 9 (dss_one (ds_ret (de_tup (da_cons (de_var (i := 4) rfl (.inl rfl)) (da_cons (de_var (i := 9) rfl (.inl rfl)) da_nil)))))))))))))))))
/-! ### _law_done -/
def g__law_done_L1 : GS noObj := (gSeq (gSet 8 (eCall 2 F__law_mixed (aCons (eVar 0) (aCons (e2 dAdd (e2 dAdd (eVar 1) (eC (.int 1))) (eVar 7)) aNil)))) (gSeq (gTgt (e2 dIx (eVar 5) (e2 dMod (eVar 8) (eA dLen (aCons (eVar 5) aNil)))) (gT 2 (gsC (gN 9) (gsC (gN 10) gsN)))) (gSeq (gSet 11 (e2 dIx (eLst (aCons (eTup (aCons (eVar 9) (aCons (eVar 10) aNil))) (aCons (eTup (aCons (eVar 10) (aCons (eVar 9) aNil))) aNil))) (e2 dMod (e2 dDiv (eVar 8) (eC (.int 32))) (eC (.int 2))))) (gSeq (gSet 12 (eCall 2 F__law_came (aCons (eVar 11) (aCons (e2 dIx (eVar 3) (e2 dMod (e2 dDiv (eVar 4) (eC (.int 5))) (eA dLen (aCons (eVar 3) aNil)))) aNil)))) (gSeq (gIf (tV (e2 dEq (e2 dMod (e2 dDiv (eVar 8) (eC (.int 64))) (eC (.int 8))) (eC (.int 1)))) (gSet 12 (e2 dSub (e2 dMod (e2 dDiv (eVar 8) (eC (.int 512))) (eC (.int 3))) (eC (.int 1)))) gNil) (gApp 6 (eTup (aCons (eVar 11) (aCons (eVar 12) aNil)))))))))
def g__law_done : GS noObj := (gSeq (gSet 4 (eCall 2 F__law_mixed (aCons (eVar 0) (aCons (eVar 1) aNil)))) (gSeq (gSet 5 (eCall 1 (listR F__law_pans) (aCons (eVar 2) aNil))) (gSeq (gOwn 6 (lDisp aNil)) (gSeq (gFor (iRng1 (aCons (e2 dIx (eLst (aCons (eC (.int 0)) (aCons (eC (.int 0)) (aCons (eC (.int 1)) (aCons (eC (.int 2)) (aCons (eC (.int 3)) aNil)))))) (e2 dMod (eVar 4) (eC (.int 5)))) aNil)) (gN 7) g__law_done_L1) (gRetO 6)))))
def F__law_done : List D → R (List D) := runL 13 g__law_done
theorem sc__law_done : FnScope ["_law_script", "_law_at", "_law_many", "_law_cases", "_law_first", "_law_pans_here", "_law_found", "_law_k", "_law_number", "_law_left", "_law_right", "_law_weighing", "_law_due"] ["_law_script", "_law_at", "_law_many", "_law_cases"] (defScope (top 40)) := ⟨rfl, rfl, rfl, by decide +kernel, rfl, by decide +kernel, by decide +kernel⟩
theorem df__law_done (T : TF K mg) : DfL P w K mg base (cA K) "_law_done" 3 4 F__law_done := by
  obtain ⟨fd, FD⟩ := T.says.def_ 19 (d := dF "_law_done" 40) rfl
  refine dfl_mk (B := noObj) (k := 2) (g := g__law_done) FD sc__law_done (FD.bindsN fun _ _ _ _ _ _ us hl => match us, hl with | [_, _, _, _], _ => rfl) (T.glo 34) fun cdv A outer s H E G => ?_
  exact (dss_cons (ds_set G.toGood.nd rfl (.inl rfl) (de_call G.toGood (df__law_mixed T) (by decide) (da_cons (de_var (i := 0) rfl (.inl rfl)) (da_cons (de_var (i := 1) rfl (.inl rfl)) da_nil)))) (dss_cons (ds_set G.toGood.nd rfl (.inl rfl) (de_call G.toGood (DfS.toD (df__law_pans T)) (by decide) (da_cons (de_var (i := 2) rfl (.inl rfl)) da_nil))) (dss_cons (ds_own G.toGood.nd rfl (.inl rfl) (dl_lst da_nil)) (dss_cons (ds_for G (di_range1 (T.free 8) (da_cons (de_ix G.toGood.K (de_lst (da_cons de_int (da_cons de_int (da_cons de_int (da_cons de_int (da_cons de_int da_nil)))))) (de_mod (de_var (i := 4) rfl (.inl rfl)) de_int)) da_nil)) (dg_name (i := 7) G.toGood.nd rfl (.inl rfl)) (dss_cons (ds_set G.toGood.nd rfl (.inl rfl) (de_call G.toGood (df__law_mixed T) (by decide) (da_cons (de_var (i := 0) rfl (.inl rfl)) (da_cons (de_add G.toGood.K (de_add G.toGood.K (de_var (i := 1) rfl (.inl rfl)) de_int) (de_var (i := 7) rfl (.inl rfl))) da_nil)))) (dss_cons (ds_tgt G.toGood.K (de_ix G.toGood.K (de_var (i := 5) rfl (.inl rfl)) (de_mod (de_var (i := 8) rfl (.inl rfl)) (de_len G.toGood.K (T.free 5) (da_cons (de_var (i := 5) rfl (.inl rfl)) da_nil)))) (dg_tup G.toGood.calm (dgs_cons (dg_name (i := 9) G.toGood.nd rfl (.inl rfl)) (dgs_cons (dg_name (i := 10) G.toGood.nd rfl (.inl rfl)) dgs_nil)))) (dss_cons (ds_set G.toGood.nd rfl (.inl rfl) (de_ix G.toGood.K (de_lst (da_cons (de_tup (da_cons (de_var (i := 9) rfl (.inl rfl)) (da_cons (de_var (i := 10) rfl (.inl rfl)) da_nil))) (da_cons (de_tup (da_cons (de_var (i := 10) rfl (.inl rfl)) (da_cons (de_var (i := 9) rfl (.inl rfl)) da_nil))) da_nil))) (de_mod (de_div (de_var (i := 8) rfl (.inl rfl)) de_int) de_int))) (dss_cons (ds_set G.toGood.nd rfl (.inl rfl) (de_call G.toGood (df__law_came T) (by decide) (da_cons (de_var (i := 11) rfl (.inl rfl)) (da_cons (de_ix G.toGood.K (de_var (i := 3) rfl (.inl rfl)) (de_mod (de_div (de_var (i := 4) rfl (.inl rfl)) de_int) (de_len G.toGood.K (T.free 5) (da_cons (de_var (i := 3) rfl (.inl rfl)) da_nil)))) da_nil)))) (dss_cons (ds_if (dt_cmp (cEq G.toGood.room) G.toGood.K (de_mod (de_div (de_var (i := 8) rfl (.inl rfl)) de_int) de_int) de_int (nomark _)) (dss_one (ds_set G.toGood.nd rfl (.inl rfl) (de_sub (de_mod (de_div (de_var (i := 8) rfl (.inl rfl)) de_int) de_int) de_int))) dss_nil) (dss_one (ds_app (i := 6) rfl (.inl rfl) (de_tup (da_cons (de_var (i := 11) rfl (.inl rfl)) (da_cons (de_var (i := 12) rfl (.inl rfl)) da_nil))))))))))) (dss_one (ds_retO (i := 6) rfl (.inl rfl)))))))
/-! ### _law_open -/
def c__law_open_1 : Env noObj → R (List D) := (lLc (iSeq (eVar 1)) (gT 2 (gsC (gN 3) (gsC (gN 4) gsN))) (tV (e2 dNe (eCall 2 F__law_came (aCons (eVar 3) (aCons (eVar 2) aNil))) (eVar 4))) (eC (.int 1)) [3, 4])
def c__law_open_2 : Env noObj → R (List D) := (lLc (iSeq (eVar 0)) (gN 2) (tV (e2 dEq (eL c__law_open_1) (eLst aNil))) (eVar 2) [2])
def g__law_open : GS noObj := (gRetL c__law_open_2)
def F__law_open : List D → R (List D) := runL 5 g__law_open
theorem sc__law_open : FnScope ["_law_cases", "_law_done_here", "_law_case", "_law_weighing", "_law_due"] ["_law_cases", "_law_done_here"] (defScope (top 41)) := ⟨rfl, rfl, rfl, by decide +kernel, rfl, by decide +kernel, by decide +kernel⟩
theorem df__law_open (T : TF K mg) : DfL P w K mg base (cA K) "_law_open" 2 2 F__law_open := by
  obtain ⟨fd, FD⟩ := T.says.def_ 20 (d := dF "_law_open" 41) rfl
  refine dfl_mk (B := noObj) (k := 1) (g := g__law_open) FD sc__law_open (FD.bindsN fun _ _ _ _ _ _ us hl => match us, hl with | [_, _], _ => rfl) (T.glo 35) fun cdv A outer s H E G => ?_
  exact (dss_one (ds_retL (dl_lc (own := [("_law_case", 2)]) G.toGood (di_seq G.toGood.K (de_var (i := 0) rfl (.inl rfl))) (blkOk_by (by kernel_rfl)) (fun _ _ _ _ _ => (dg_name (i := 2) G.toGood.nd rfl (.inr rfl))) (by decide) (fun _ _ _ _ _ G1 => (dts_one (dt_cmp (cEq G1.room) G1.K (de_l (dl_lc (own := [("_law_weighing", 3), ("_law_due", 4)]) G1 (di_seq G1.K (de_var (i := 1) rfl (.inr (.inl rfl)))) (blkOk_by (by kernel_rfl)) (fun _ _ _ _ _ => (dg_tup G1.calm (dgs_cons (dg_name (i := 3) G1.nd rfl (.inl rfl)) (dgs_cons (dg_name (i := 4) G1.nd rfl (.inl rfl)) dgs_nil)))) (by decide) (fun _ _ _ _ _ G2 => (dts_one (dt_cmp (cNe G2.room) G2.K (de_call G2 (df__law_came T) (by decide) (da_cons (de_var (i := 3) rfl (.inl rfl)) (da_cons (de_var (i := 2) rfl (.inr (.inl rfl))) da_nil))) (de_var (i := 4) rfl (.inl rfl)) (nomark _)))) (fun _ _ _ _ _ G2 => de_int))) (de_lst da_nil) (nomark _)))) (fun _ _ _ _ _ G1 => (de_var (i := 2) rfl (.inr (.inl rfl)))))))
/-! ### _law_class -/
def g__law_class (a : Addr) (x : Str) : GS (excB a) := (gSeq (gSet 1 (e2 dAdd (e2 dMulS (eC (.str (Str.ofString "count "))) (eA dInt (aCons (eIsE 0 (decide (x = ("BadCount" : Str)))) aNil))) (e2 dMulS (eC (.str (Str.ofString "cases "))) (eA dInt (aCons (eIsE 0 (decide (x = ("BadCases" : Str)))) aNil))))) (gSeq (gSet 1 (e2 dAdd (eVar 1) (e2 dMulS (eC (.str (Str.ofString "done "))) (eA dInt (aCons (eIsE 0 (decide (x = ("BadDone" : Str)))) aNil))))) (gRet (e2 dAdd (eVar 1) (e2 dMulS (eC (.str (Str.ofString "value"))) (eA dInt (aCons (eIsE 0 true) aNil)))))))
theorem sc__law_class : FnScope ["_law_error", "_law_found"] ["_law_error"] (defScope (top 42)) := ⟨rfl, rfl, rfl, by decide +kernel, rfl, by decide +kernel, by decide +kernel⟩
theorem df__law_class (T : TF K mg) {x : Str} (hx : x ∈ [("BadCount" : Str), "BadCases", "BadDone"]) : FnX P w K mg base "_law_class" 1 (He.ga K x) (wordX x) := by
  have EK := exFacts_ok (exX T) hx
  obtain ⟨fd, FD⟩ := T.says.def_ 21 (d := dF "_law_class" 42) rfl
  refine fnx_mk (cA := cA K) (k := 0) (g := fun a => g__law_class a x) FD sc__law_class (FD.bindsN fun _ _ _ _ _ _ us hl => match us, hl with | [_], _ => rfl) (T.glo 36) (fun cdv A outer s H E p hz hf G => ?_) (fun a => ?_)
  · exact (dss_cons (ds_set G.nd rfl (.inl rfl) (de_add G.K (de_mulS de_str (de_intc (T.free 3) (da_cons (de_isE (oe := p.2) EK.c (List.mem_singleton.mpr rfl) hz hf (T.free 4) (t := .ref (He.ga K ("BadCount" : Str))) (pe_glob rfl (T.glo 48) rfl) (fun _ h => h) (EK.is "BadCount" (by decide)) rfl (.inl rfl)) da_nil))) (de_mulS de_str (de_intc (T.free 3) (da_cons (de_isE (oe := p.2) EK.c (List.mem_singleton.mpr rfl) hz hf (T.free 4) (t := .ref (He.ga K ("BadCases" : Str))) (pe_glob rfl (T.glo 50) rfl) (fun _ h => h) (EK.is "BadCases" (by decide)) rfl (.inl rfl)) da_nil))))) (dss_cons (ds_set G.nd rfl (.inl rfl) (de_add G.K (de_var (i := 1) rfl (.inl rfl)) (de_mulS de_str (de_intc (T.free 3) (da_cons (de_isE (oe := p.2) EK.c (List.mem_singleton.mpr rfl) hz hf (T.free 4) (t := .ref (He.ga K ("BadDone" : Str))) (pe_glob rfl (T.glo 52) rfl) (fun _ h => h) (EK.is "BadDone" (by decide)) rfl (.inl rfl)) da_nil))))) (dss_one (ds_ret (de_add G.K (de_var (i := 1) rfl (.inl rfl)) (de_mulS de_str (de_intc (T.free 3) (da_cons (de_isE (oe := p.2) EK.c (List.mem_singleton.mpr rfl) hz hf (T.free 4) (t := .ty "ValueError") (pe_bltn rfl (T.free 14) boot_VE rfl) (fun _ h => h) EK.ve rfl (.inl rfl)) da_nil))))))))
  · simp only [List.mem_cons, List.not_mem_nil, or_false] at hx
    rcases hx with rfl | rfl | rfl <;> exact ⟨_, rfl⟩
/-! ### _law_wrong_done -/
def g__law_wrong_done : GS noObj := (gSeq (gSet 2 (eTup (aCons (eTup (aCons (eC (.int 0)) aNil)) (aCons (eTup (aCons (eC (.int 1)) aNil)) aNil)))) (gSeq (gSet 3 (eLst (aCons (eC .none) (aCons (eVar 2) (aCons (eTup (aCons (eVar 2) aNil)) (aCons (eTup (aCons (eVar 2) (aCons (eC (.int 2)) aNil))) (aCons (eTup (aCons (eVar 2) (aCons (e1 dNeg (eC (.int 2))) aNil))) (aCons (eTup (aCons (eVar 2) (aCons (eC (.bool true)) aNil))) (aCons (eTup (aCons (eVar 2) (aCons (eC .none) aNil))) (aCons (eTup (aCons (eVar 2) (aCons (eC (.str (Str.ofString "0"))) aNil))) aNil)))))))))) (gSeq (gSet 3 (e2 dAdd (eVar 3) (eLst (aCons (eLst (aCons (eVar 2) (aCons (eC (.int 0)) aNil))) (aCons (eTup (aCons (eVar 2) (aCons (eC (.int 0)) (aCons (eC (.int 0)) aNil)))) (aCons (eTup (aCons (eTup (aCons (eTup (aCons (eC (.int 0)) aNil)) (aCons (eTup (aCons (eC (.int 0)) aNil)) aNil))) (aCons (eC (.int 0)) aNil))) (aCons (eTup (aCons (eTup (aCons (eTup (aCons (eC (.int 0)) (aCons (eC (.int 1)) aNil))) (aCons (eTup (aCons (eC (.int 1)) aNil)) aNil))) (aCons (eC (.int 0)) aNil))) (aCons (eTup (aCons (eTup (aCons (eLst (aCons (eC (.int 0)) aNil)) (aCons (eLst (aCons (eC (.int 1)) aNil)) aNil))) (aCons (eC (.int 0)) aNil))) aNil)))))))) (gSeq (gSet 3 (e2 dAdd (eVar 3) (eLst (aCons (eTup (aCons (eTup (aCons (eTup (aCons (eC (.int 0)) aNil)) (aCons (eTup (aCons (eC (.int 5)) aNil)) aNil))) (aCons (eC (.int 0)) aNil))) (aCons (eTup (aCons (eC (.str (Str.ofString "01"))) (aCons (eC (.int 0)) aNil))) (aCons (eTup (aCons (eTup aNil) (aCons (eC (.int 0)) aNil))) aNil)))))) (gSeq (gSet 3 (e2 dAdd (eVar 3) (eLst (aCons (eTup (aCons (eTup (aCons (eTup (aCons (eC (.int 0)) aNil)) aNil)) (aCons (eC (.int 0)) aNil))) (aCons (eTup (aCons (eTup (aCons (eTup aNil) (aCons (eTup aNil) aNil))) (aCons (eC (.int 0)) aNil))) (aCons (eTup (aCons (eC (.dict [])) (aCons (eC (.int 0)) aNil))) (aCons (eC (.int 5)) (aCons (eTup (aCons (eVar 2) (aCons (eLst (aCons (eC (.int 0)) aNil)) aNil))) aNil)))))))) (gSeq (gSet 4 (eLst (aCons (eC .none) (aCons (eA dTuple (aCons (e2 dAdd (eVar 1) (eLst (aCons (eTup (aCons (eVar 2) (aCons (eC (.int 0)) aNil))) aNil))) aNil)) (aCons (eC (.dict [])) (aCons (eC (.str (Str.ofString "01"))) (aCons (eC (.int 5)) (aCons (e2 dMul (eLst (aCons (eTup (aCons (eVar 2) (aCons (eC (.int 0)) aNil))) aNil)) (eC (.int 21))) (aCons (eVar 2) aNil))))))))) (gSeq (gIf (tV (e2 dEq (e2 dMod (eVar 0) (eC (.int 4))) (eC (.int 0)))) (gRet (e2 dIx (eVar 4) (e2 dMod (e2 dDiv (eVar 0) (eC (.int 4))) (eC (.int 7))))) gNil) (gSeq (gSet 5 (e2 dMod (e2 dDiv (eVar 0) (eC (.int 4))) (e2 dAdd (eA dLen (aCons (eVar 1) aNil)) (eC (.int 1))))) (gRet (e2 dAdd (e2 dAdd (eSl (eVar 1) oNone (oSome (eVar 5))) (eLst (aCons (e2 dIx (eVar 3) (e2 dMod (e2 dDiv (eVar 0) (eC (.int 16))) (eC (.int 21)))) aNil))) (eSl (eVar 1) (oSome (eVar 5)) oNone)))))))))))
def F__law_wrong_done : List D → R D := runF 6 g__law_wrong_done
theorem sc__law_wrong_done : FnScope ["_law_cell", "_law_done_here", "_law_good", "_law_some", "_law_whole_here", "_law_at"] ["_law_cell", "_law_done_here"] (defScope (top 43)) := ⟨rfl, rfl, rfl, by decide +kernel, rfl, by decide +kernel, by decide +kernel⟩
theorem df__law_wrong_done (T : TF K mg) : Df P w K mg base (cA K) "_law_wrong_done" 1 2 F__law_wrong_done := by
  obtain ⟨fd, FD⟩ := T.says.def_ 22 (d := dF "_law_wrong_done" 43) rfl
  refine df_mk (B := noObj) (k := 0) (g := g__law_wrong_done) FD sc__law_wrong_done (FD.bindsN fun _ _ _ _ _ _ us hl => match us, hl with | [_, _], _ => rfl) (T.glo 37) fun cdv A outer s H E G => ?_
  exact (dss_cons (ds_set G.toGood.nd rfl (.inl rfl) (de_tup (da_cons (de_tup (da_cons de_int da_nil)) (da_cons (de_tup (da_cons de_int da_nil)) da_nil)))) (dss_cons (ds_set G.toGood.nd rfl (.inl rfl) (de_lst (da_cons de_non (da_cons (de_var (i := 2) rfl (.inl rfl)) (da_cons (de_tup (da_cons (de_var (i := 2) rfl (.inl rfl)) da_nil)) (da_cons (de_tup (da_cons (de_var (i := 2) rfl (.inl rfl)) (da_cons de_int da_nil))) (da_cons (de_tup (da_cons (de_var (i := 2) rfl (.inl rfl)) (da_cons (de_neg de_int) da_nil))) (da_cons (de_tup (da_cons (de_var (i := 2) rfl (.inl rfl)) (da_cons de_bl da_nil))) (da_cons (de_tup (da_cons (de_var (i := 2) rfl (.inl rfl)) (da_cons de_non da_nil))) (da_cons (de_tup (da_cons (de_var (i := 2) rfl (.inl rfl)) (da_cons de_str da_nil))) da_nil)))))))))) (dss_cons (ds_set G.toGood.nd rfl (.inl rfl) (de_add G.toGood.K (de_var (i := 3) rfl (.inl rfl)) (de_lst (da_cons (de_lst (da_cons (de_var (i := 2) rfl (.inl rfl)) (da_cons de_int da_nil))) (da_cons (de_tup (da_cons (de_var (i := 2) rfl (.inl rfl)) (da_cons de_int (da_cons de_int da_nil)))) (da_cons (de_tup (da_cons (de_tup (da_cons (de_tup (da_cons de_int da_nil)) (da_cons (de_tup (da_cons de_int da_nil)) da_nil))) (da_cons de_int da_nil))) (da_cons (de_tup (da_cons (de_tup (da_cons (de_tup (da_cons de_int (da_cons de_int da_nil))) (da_cons (de_tup (da_cons de_int da_nil)) da_nil))) (da_cons de_int da_nil))) (da_cons (de_tup (da_cons (de_tup (da_cons (de_lst (da_cons de_int da_nil)) (da_cons (de_lst (da_cons de_int da_nil)) da_nil))) (da_cons de_int da_nil))) da_nil)))))))) (dss_cons (ds_set G.toGood.nd rfl (.inl rfl) (de_add G.toGood.K (de_var (i := 3) rfl (.inl rfl)) (de_lst (da_cons (de_tup (da_cons (de_tup (da_cons (de_tup (da_cons de_int da_nil)) (da_cons (de_tup (da_cons de_int da_nil)) da_nil))) (da_cons de_int da_nil))) (da_cons (de_tup (da_cons de_str (da_cons de_int da_nil))) (da_cons (de_tup (da_cons (de_tup da_nil) (da_cons de_int da_nil))) da_nil)))))) (dss_cons (ds_set G.toGood.nd rfl (.inl rfl) (de_add G.toGood.K (de_var (i := 3) rfl (.inl rfl)) (de_lst (da_cons (de_tup (da_cons (de_tup (da_cons (de_tup (da_cons de_int da_nil)) da_nil)) (da_cons de_int da_nil))) (da_cons (de_tup (da_cons (de_tup (da_cons (de_tup da_nil) (da_cons (de_tup da_nil) da_nil))) (da_cons de_int da_nil))) (da_cons (de_tup (da_cons de_dic (da_cons de_int da_nil))) (da_cons de_int (da_cons (de_tup (da_cons (de_var (i := 2) rfl (.inl rfl)) (da_cons (de_lst (da_cons de_int da_nil)) da_nil))) da_nil)))))))) (dss_cons (ds_set G.toGood.nd rfl (.inl rfl) (de_lst (da_cons de_non (da_cons (de_tuple G.toGood.K (T.free 13) (da_cons (de_add G.toGood.K (de_var (i := 1) rfl (.inl rfl)) (de_lst (da_cons (de_tup (da_cons (de_var (i := 2) rfl (.inl rfl)) (da_cons de_int da_nil))) da_nil))) da_nil)) (da_cons de_dic (da_cons de_str (da_cons de_int (da_cons (de_mul G.toGood.K (de_lst (da_cons (de_tup (da_cons (de_var (i := 2) rfl (.inl rfl)) (da_cons de_int da_nil))) da_nil)) de_int) (da_cons (de_var (i := 2) rfl (.inl rfl)) da_nil))))))))) (dss_cons (ds_if (dt_cmp (cEq G.toGood.room) G.toGood.K (de_mod (de_var (i := 0) rfl (.inl rfl)) de_int) de_int (nomark _)) (dss_one (ds_ret (de_ix G.toGood.K (de_var (i := 4) rfl (.inl rfl)) (de_mod (de_div (de_var (i := 0) rfl (.inl rfl)) de_int) de_int)))) dss_nil) (dss_cons (ds_set G.toGood.nd rfl (.inl rfl) (de_mod (de_div (de_var (i := 0) rfl (.inl rfl)) de_int) (de_add G.toGood.K (de_len G.toGood.K (T.free 5) (da_cons (de_var (i := 1) rfl (.inl rfl)) da_nil)) de_int))) (dss_one (ds_ret (de_add G.toGood.K (de_add G.toGood.K (de_sl G.toGood.K (de_var (i := 1) rfl (.inl rfl)) do_none (do_some (de_var (i := 5) rfl (.inl rfl)))) (de_lst (da_cons (de_ix G.toGood.K (de_var (i := 3) rfl (.inl rfl)) (de_mod (de_div (de_var (i := 0) rfl (.inl rfl)) de_int) de_int)) da_nil))) (de_sl G.toGood.K (de_var (i := 1) rfl (.inl rfl)) (do_some (de_var (i := 5) rfl (.inl rfl))) do_none))))))))))))
/-! ### _law_refused -/
def g__law_refused : GS noObj := (gIf (tV (e2 dEq (eVar 0) (eC (.int 0)))) (gDrop (eCall 3 (listR F_still_open) (aCons (eVar 1) (aCons (eVar 2) (aCons (eVar 3) aNil))))) (gIf (tV (e2 dEq (eVar 0) (eC (.int 1)))) (gDrop (eCall 3 F_told (aCons (eVar 1) (aCons (eVar 2) (aCons (eVar 3) aNil))))) (gDrop (eCall 3 F_least (aCons (eVar 1) (aCons (eVar 2) (aCons (eVar 3) aNil)))))))
def F__law_refused : List D → R D := tryF 5 g__law_refused (hdE "done value") (.bool false)
theorem sc__law_refused : FnScope ["_law_which", "_law_many", "_law_cases", "_law_done_here", "_law_error"] ["_law_which", "_law_many", "_law_cases", "_law_done_here"] (defScope (top 44)) := ⟨rfl, rfl, rfl, by decide +kernel, rfl, by decide +kernel, by decide +kernel⟩
theorem df__law_refused (T : TF K mg) : Df P w K mg base (cA K) "_law_refused" 8 4 F__law_refused := by
  obtain ⟨fd, FD⟩ := T.says.def_ 23 (d := dF "_law_refused" 44) rfl
  refine df_try (cA := cA K) (k := 7) (i := 4) (g := g__law_refused) (hd := (hdE "done value")) (dd := (.bool false)) (vd := (.bl false)) FD sc__law_refused (FD.bindsN fun _ _ _ _ _ _ us hl => match us, hl with | [_, _, _, _], _ => rfl) (T.glo 38) rfl rfl rfl (T.glo 46) (fun _ _ _ _ _ _ => rfl) (fun _ _ _ _ _ _ => rfl) (fun m r hr => ?_) (fun m r hr => ?_) (fun cdv A outer s H E E1 pn xe G => ?_) (fun cdv A outer s H E n r v a oe pn hr hn hv hz hf => ?_) rfl (fun _ _ _ _ _ _ => pe_bl)
  · obtain ⟨x, hx, _⟩ := hdE_some hr
    rw [cA_ex hx]
    exact (exFacts_ok (exX T) (exN_mem hx)).pe
  · obtain ⟨x, hx, rfl⟩ := hdE_some hr
    exact ⟨_, rfl⟩
  · exact (dss_one (ds_if (dt_cmp (cEq G.toGood.room) G.toGood.K (de_var (i := 0) rfl (.inl rfl)) de_int (nomark _)) (dss_one (ds_expr (de_call G.toGood (DfS.toD (df_still_open T)) (by decide) (da_cons (de_var (i := 1) rfl (.inl rfl)) (da_cons (de_var (i := 2) rfl (.inl rfl)) (da_cons (de_var (i := 3) rfl (.inl rfl)) da_nil)))))) (dss_one (ds_if (dt_cmp (cEq G.toGood.room) G.toGood.K (de_var (i := 0) rfl (.inl rfl)) de_int (nomark _)) (dss_one (ds_expr (de_call G.toGood (df_told T) (by decide) (da_cons (de_var (i := 1) rfl (.inl rfl)) (da_cons (de_var (i := 2) rfl (.inl rfl)) (da_cons (de_var (i := 3) rfl (.inl rfl)) da_nil)))))) (dss_one (ds_expr (de_call G.toGood (df_least T) (by decide) (da_cons (de_var (i := 1) rfl (.inl rfl)) (da_cons (de_var (i := 2) rfl (.inl rfl)) (da_cons (de_var (i := 3) rfl (.inl rfl)) da_nil))))))))))
  · obtain ⟨x, hx, rfl⟩ := hdE_some hn
    cases hv
    exact pe_eqW (pe_callX (p := (a, oe)) (df__law_class T (exN_mem hx)) ((fun (r : L2H.RoomH 1 _) => ⟨r.dp, r.un⟩) ((L2H.roomH_of hr).mono (by decide))) ⟨rfl, hf.elim fun vs e => ⟨vs, e, hz.2.2 vs e⟩⟩ (.head _) (cA_ex hx ▸ hz) hf (fun pins σ H s e s1 I h => suite_no pins σ H s e s1 I h) rfl (.inl rfl))
/-! ### _law_tuples -/
def c__law_tuples_1 : Env noObj → R (List D) := (lLc (iSeq (eVar 2)) (gN 3) tYesD (eCall 1 F__law_whole (aCons (eVar 3) aNil)) [3])
def g__law_tuples_L1 : GS noObj := (gIf (tOrD (tNotD (tV (e1 (dIsi "tuple") (eVar 2)))) (tOrD (tV (e2 dNe (eA dLen (aCons (eVar 2) aNil)) (eVar 1))) (tNotD (tV (eA dAll (aCons (eL c__law_tuples_1) aNil)))))) (gRet (eC (.bool false))) gNil)
def g__law_tuples : GS noObj := (gSeq (gFor (iSeq (eVar 0)) (gN 2) g__law_tuples_L1) (gRet (eC (.bool true))))
def F__law_tuples : List D → R D := runF 4 g__law_tuples
theorem sc__law_tuples : FnScope ["_law_found", "_law_many", "_law_case", "_law_one"] ["_law_found", "_law_many"] (defScope (top 45)) := ⟨rfl, rfl, rfl, by decide +kernel, rfl, by decide +kernel, by decide +kernel⟩
theorem df__law_tuples (T : TF K mg) : Df P w K mg base (cA K) "_law_tuples" 2 2 F__law_tuples := by
  obtain ⟨fd, FD⟩ := T.says.def_ 24 (d := dF "_law_tuples" 45) rfl
  refine df_mk (B := noObj) (k := 1) (g := g__law_tuples) FD sc__law_tuples (FD.bindsN fun _ _ _ _ _ _ us hl => match us, hl with | [_, _], _ => rfl) (T.glo 39) fun cdv A outer s H E G => ?_
  exact (dss_cons (ds_for G (di_seq G.toGood.K (de_var (i := 0) rfl (.inl rfl))) (dg_name (i := 2) G.toGood.nd rfl (.inl rfl)) (dss_one (ds_if (dt_w (dw_or (dt_not (dt_val (de_isi G.toGood.K (T.free 4) (T.free 13) boot_tupleT (de_var (i := 2) rfl (.inl rfl))))) (dw_or (dt_cmp (cNe G.toGood.room) G.toGood.K (de_len G.toGood.K (T.free 5) (da_cons (de_var (i := 2) rfl (.inl rfl)) da_nil)) (de_var (i := 1) rfl (.inl rfl)) (nomark _)) (dw_or1 (dt_not (dt_val (de_all G.toGood.K G.toGood.calm (T.free 0) (da_cons (de_l (dl_lc (own := [("_law_one", 3)]) G.toGood (di_seq G.toGood.K (de_var (i := 2) rfl (.inl rfl))) (blkOk_by (by kernel_rfl)) (fun _ _ _ _ _ => (dg_name (i := 3) G.toGood.nd rfl (.inl rfl))) (by decide) (fun _ _ _ _ _ G1 => dts_nil) (fun _ _ _ _ _ G1 => (de_call G1 (df__law_whole T) (by decide) (da_cons (de_var (i := 3) rfl (.inl rfl)) da_nil))))) da_nil)))))))) (dss_one (ds_ret de_bl)) dss_nil))) (dss_one (ds_ret de_bl)))
/-! ### law -/
def c_law_1 : Env pinB → R (List D) := (lLc (iRevD (aCons (eVarP 3) aNil)) (gT 2 (gsC (gN 12) (gsC (gN 13) gsN))) tYesD (eTup (aCons (eTup (aCons (e2 dIx (eVarP 12) (eC (.int 1))) (aCons (e2 dIx (eVarP 12) (eC (.int 0))) aNil))) (aCons (e2 dSub (eC (.int 0)) (eVarP 13)) aNil))) [12, 13])
def c_law_2 : Env pinB → R (List D) := (lLc (iRng1 (aCons (eC (.int 3)) aNil)) (gN 14) tYesD (eCall 4 F__law_refused (aCons (eVarP 14) (aCons (eVarP 1) (aCons (e2 dIx (eVarP 5) (eC (.int 0))) (aCons (eVarP 8) aNil))))) [14])
def g_tail : GS pinB := (gFrz 6 (gFrz 11 (gRet (eAnd (e2 dEq (eVarP 11) (eVarP 2)) (eAnd (e2 dEq (eCall 3 (listR F_still_open) (aCons (eVarP 1) (aCons (eA dList (aCons (eVarP 2) aNil)) (aCons (eA dList (aCons (eVarP 3) aNil)) aNil)))) (eVarP 4)) (e2 dEq (eVarP 6) (e2 dAdd (eVarP 4) (eLst (aCons (eC .none) aNil)))))))))
def g_mid : GS pinB := (gSeq (gOwn 6 (lCall 3 F_still_open (aCons (eVarP 1) (aCons (e2 dIx (eVarP 5) (eC (.int 0))) (aCons (e2 dIx (eVarP 5) (eC (.int 1))) aNil))))) (gSeq (gIf (tBor 6 (tOrD (tNotD (tV (e1 (dIsi "list") (eVarP 6)))) (tOrD (tV (e2 dNe (eVarP 6) (eVarP 4))) (tOrD (tNotD (tV (eCall 2 F__law_tuples (aCons (eVarP 6) (aCons (eVarP 1) aNil))))) (tV (e2 dNe (eVarP 5) (eLst (aCons (eVarP 2) (aCons (eVarP 3) aNil))))))))) (gRet (eC (.bool false))) gNil) (gSeq (gApp 6 (eC .none)) (gSeq (gSet 7 (eL c_law_1)) (gSeq (gIf (tOrD (tV (e2 dNe (eCall 3 (listR F_still_open) (aCons (eVarP 1) (aCons (e2 dIx (eVarP 5) (eC (.int 0))) (aCons (eVarP 7) aNil)))) (eVarP 4))) (tV (e2 dNe (eCall 3 (listR F_still_open) (aCons (eVarP 1) (aCons (e2 dIx (eVarP 5) (eC (.int 0))) (aCons (e2 dAdd (eVarP 7) (eVarP 3)) aNil)))) (eVarP 4)))) (gRet (eC (.bool false))) gNil) (gSeq (gSet 8 (eCall 2 F__law_wrong_done (aCons (eCall 2 F__law_mixed (aCons (eVarP 0) (aCons (eC (.int 5)) aNil))) (aCons (eVarP 3) aNil)))) (gSeq (gSet 9 (eA dStr (aCons (eVarP 8) aNil))) (gSeq (gIf (tOrD (tNotD (tV (eA dAll (aCons (eL c_law_2) aNil)))) (tV (e2 dNe (eA dStr (aCons (eVarP 8) aNil)) (eVarP 9)))) (gRet (eC (.bool false))) gNil) (gSeq (gSet 10 (e2 dMul (eLst (aCons (eTup (aCons (eTup (aCons (eTup (aCons (eC (.int 0)) aNil)) (aCons (eTup (aCons (eC (.int 1)) aNil)) aNil))) (aCons (eC (.int 0)) aNil))) aNil)) (eC (.int 20)))) (gSeq (gIf (tV (e2 dNe (eCall 3 (listR F_still_open) (aCons (eVarP 1) (aCons (e2 dIx (eVarP 5) (eC (.int 0))) (aCons (eVarP 10) aNil)))) (eCall 2 (listR F__law_open) (aCons (eVarP 2) (aCons (eSl (eVarP 10) oNone (oSome (eC (.int 1)))) aNil))))) (gRet (eC (.bool false))) gNil) (gSeq (gOwn 11 (lCall 3 F_still_open (aCons (eVarP 1) (aCons (e2 dIx (eVarP 5) (eC (.int 0))) (aCons (eLst aNil) aNil))))) gNil)))))))))))
def g_law : GS pinB := (gSeq (gTgt (eCall 3 F__law_puzzle (aCons (eVarP 0) (aCons (eC (.int 6)) (aCons (eC (.int 5)) aNil)))) (gT 2 (gsC (gN 1) (gsC (gN 2) gsN)))) (gSeq (gSet 3 (eCall 4 (listR F__law_done) (aCons (eVarP 0) (aCons (eC (.int 1)) (aCons (eVarP 1) (aCons (eVarP 2) aNil)))))) (gSeq (gSet 4 (eCall 2 (listR F__law_open) (aCons (eVarP 2) (aCons (eVarP 3) aNil)))) (gPair 5 (lList (aCons (eVarP 2) aNil)) (lList (aCons (eVarP 3) aNil)) g_mid g_tail))))
def F_law : List D → R D := runF 15 g_law
theorem sc_law : FnScope ["_law_script", "_law_many", "_law_cases", "_law_done_here", "_law_due", "_law_handed", "_law_found", "_law_turned", "_law_bad", "_law_kept", "_law_often", "_law_every", "_law_weighing", "_law_due_then", "_law_which"] ["_law_script"] (defScope (top 46)) := ⟨rfl, rfl, rfl, by decide +kernel, rfl, by decide +kernel, by decide +kernel⟩
abbrev lawC (P : Program) (w : World) (K : PySem.W.Frag) (mg : Str → Option Value) (base : Heap) (cdv : Value) (A : Around) (outer : List PySem.Env) (s : Shared) (H : Hp) (E : XK) : Cx := bodyC P w K mg base ["_law_script", "_law_many", "_law_cases", "_law_done_here", "_law_due", "_law_handed", "_law_found", "_law_turned", "_law_bad", "_law_kept", "_law_often", "_law_every", "_law_weighing", "_law_due_then", "_law_which"] (dF "law" 46).qual (dF "law" 46).scope (He.fAd K (dF "law" 46).at_) cdv A outer s H E
theorem body_law (T : TF K mg) {cdv : Value} {A : Around} {outer : List PySem.Env} {s : Shared} {H : Hp} {E : XK} (so : StrOk (lawC P w K mg base cdv A outer s H E)) (G : GoodS (B := pinB) (lawC P w K mg base cdv A outer s H E) ⟨K, cA K, E⟩ 8) : DSs (lawC P w K mg base cdv A outer s H E) ⟨K, cA K, E⟩ (dF "law" 46).body g_law := by
  exact (dss_cons (ds_tgt G.toGood.K (de_call G.toGood (df__law_puzzle T) (by decide) (da_cons (de_varP (i := 0) rfl (.inl rfl)) (da_cons de_int (da_cons de_int da_nil)))) (dg_tup G.toGood.calm (dgs_cons (dg_name (i := 1) G.toGood.nd rfl (.inr rfl)) (dgs_cons (dg_name (i := 2) G.toGood.nd rfl (.inl rfl)) dgs_nil)))) (dss_cons (ds_set G.toGood.nd rfl (.inl rfl) (de_call G.toGood (DfS.toD (df__law_done T)) (by decide) (da_cons (de_varP (i := 0) rfl (.inl rfl)) (da_cons de_int (da_cons (de_varP (i := 1) rfl (.inr (.inl rfl))) (da_cons (de_varP (i := 2) rfl (.inl rfl)) da_nil)))))) (dss_cons (ds_set G.toGood.nd rfl (.inl rfl) (de_call G.toGood (DfS.toD (df__law_open T)) (by decide) (da_cons (de_varP (i := 2) rfl (.inl rfl)) (da_cons (de_varP (i := 3) rfl (.inl rfl)) da_nil)))) (dss_pair (h := 5) G.toGood.nd rfl (.inr rfl) (dl_list G.toGood.K (T.free 6) (da_cons (de_varP (i := 2) rfl (.inl rfl)) da_nil)) (dl_list G.toGood.K (T.free 6) (da_cons (de_varP (i := 3) rfl (.inl rfl)) da_nil)) (dsk_cons (ds_own G.toGood.nd rfl (.inl rfl) (dl_call G.toGood (df_still_open T) (by decide) (da_cons (de_varP (i := 1) rfl (.inr (.inl rfl))) (da_cons (de_ix G.toGood.K (de_varP (i := 5) rfl (.inr (.inl rfl))) de_int) (da_cons (de_ix G.toGood.K (de_varP (i := 5) rfl (.inr (.inl rfl))) de_int) da_nil))))) (dsk_cons (ds_if (dt_bor 6 (dt_w (dw_or (dt_not (dt_val (de_isi G.toGood.K (T.free 4) (T.free 6) boot_listT (de_varP (i := 6) rfl (.inl rfl))))) (dw_or (dt_cmp (cNe G.toGood.room) G.toGood.K (de_varP (i := 6) rfl (.inl rfl)) (de_varP (i := 4) rfl (.inl rfl)) (nomark _)) (dw_or (dt_not (dt_val (de_call G.toGood (df__law_tuples T) (by decide) (da_cons (de_varP (i := 6) rfl (.inl rfl)) (da_cons (de_varP (i := 1) rfl (.inr (.inl rfl))) da_nil))))) (dw_or1 (dt_cmp (cNe G.toGood.room) G.toGood.K (de_varP (i := 5) rfl (.inr (.inl rfl))) (de_lst (da_cons (de_varP (i := 2) rfl (.inl rfl)) (da_cons (de_varP (i := 3) rfl (.inl rfl)) da_nil))) (nomark _)))))))) (dss_one (ds_ret de_bl)) dss_nil) (dsk_cons (ds_app (i := 6) rfl (.inl rfl) de_non) (dsk_cons (ds_lcSet (ps_lc (own := [("_law_weighing", 12), ("_law_due_then", 13)]) (i := 7) G.toGood rfl rfl (sw_true rfl rfl rfl (by decide +kernel)) (di_rev G.toGood.K (T.free 9) (da_cons (de_varP (i := 3) rfl (.inl rfl)) da_nil)) (blkOk_by (by kernel_rfl)) (fun _ _ _ _ _ => (dg_tup G.toGood.calm (dgs_cons (dg_name (i := 12) G.toGood.nd rfl (.inl rfl)) (dgs_cons (dg_name (i := 13) G.toGood.nd rfl (.inl rfl)) dgs_nil)))) (by decide) (fun _ _ _ _ _ G1 => dts_nil) (fun _ _ _ _ _ G1 => (de_tup (da_cons (de_tup (da_cons (de_ix G1.K (de_varP (i := 12) rfl (.inl rfl)) de_int) (da_cons (de_ix G1.K (de_varP (i := 12) rfl (.inl rfl)) de_int) da_nil))) (da_cons (de_sub de_int (de_varP (i := 13) rfl (.inl rfl))) da_nil)))))) (dsk_cons (ds_if (dt_w (dw_or (dt_cmp (cNe G.toGood.room) G.toGood.K (de_call G.toGood (DfS.toD (df_still_open T)) (by decide) (da_cons (de_varP (i := 1) rfl (.inr (.inl rfl))) (da_cons (de_ix G.toGood.K (de_varP (i := 5) rfl (.inr (.inl rfl))) de_int) (da_cons (de_varP (i := 7) rfl (.inl rfl)) da_nil)))) (de_varP (i := 4) rfl (.inl rfl)) (nomark _)) (dw_or1 (dt_cmp (cNe G.toGood.room) G.toGood.K (de_call G.toGood (DfS.toD (df_still_open T)) (by decide) (da_cons (de_varP (i := 1) rfl (.inr (.inl rfl))) (da_cons (de_ix G.toGood.K (de_varP (i := 5) rfl (.inr (.inl rfl))) de_int) (da_cons (de_add G.toGood.K (de_varP (i := 7) rfl (.inl rfl)) (de_varP (i := 3) rfl (.inl rfl))) da_nil)))) (de_varP (i := 4) rfl (.inl rfl)) (nomark _))))) (dss_one (ds_ret de_bl)) dss_nil) (dsk_cons (ds_set G.toGood.nd rfl (.inr rfl) (de_call G.toGood (df__law_wrong_done T) (by decide) (da_cons (de_call G.toGood (df__law_mixed T) (by decide) (da_cons (de_varP (i := 0) rfl (.inl rfl)) (da_cons de_int da_nil))) (da_cons (de_varP (i := 3) rfl (.inl rfl)) da_nil)))) (dsk_cons (ds_set G.toGood.nd rfl (.inl rfl) (de_strc G.toGood so (T.free 11) (da_cons (de_varP (i := 8) rfl (.inr (.inl rfl))) da_nil))) (dsk_cons (ds_if (dt_w (dw_or (dt_not (dt_val (de_all G.toGood.K G.toGood.calm (T.free 0) (da_cons (de_l (dl_lc (own := [("_law_which", 14)]) G.toGood (di_range1 (T.free 8) (da_cons de_int da_nil)) (blkOk_by (by kernel_rfl)) (fun _ _ _ _ _ => (dg_name (i := 14) G.toGood.nd rfl (.inl rfl))) (by decide) (fun _ _ _ _ _ G1 => dts_nil) (fun _ _ _ _ _ G1 => (de_call G1 (df__law_refused T) (by decide) (da_cons (de_varP (i := 14) rfl (.inl rfl)) (da_cons (de_varP (i := 1) rfl (.inr (.inl rfl))) (da_cons (de_ix G1.K (de_varP (i := 5) rfl (.inr (.inl rfl))) de_int) (da_cons (de_varP (i := 8) rfl (.inr (.inl rfl))) da_nil)))))))) da_nil)))) (dw_or1 (dt_cmp (cNe G.toGood.room) G.toGood.K (de_strc G.toGood so (T.free 11) (da_cons (de_varP (i := 8) rfl (.inr (.inl rfl))) da_nil)) (de_varP (i := 9) rfl (.inl rfl)) (nomark _))))) (dss_one (ds_ret de_bl)) dss_nil) (dsk_cons (ds_set G.toGood.nd rfl (.inl rfl) (de_mul G.toGood.K (de_lst (da_cons (de_tup (da_cons (de_tup (da_cons (de_tup (da_cons de_int da_nil)) (da_cons (de_tup (da_cons de_int da_nil)) da_nil))) (da_cons de_int da_nil))) da_nil)) de_int)) (dsk_cons (ds_if (dt_cmp (cNe G.toGood.room) G.toGood.K (de_call G.toGood (DfS.toD (df_still_open T)) (by decide) (da_cons (de_varP (i := 1) rfl (.inr (.inl rfl))) (da_cons (de_ix G.toGood.K (de_varP (i := 5) rfl (.inr (.inl rfl))) de_int) (da_cons (de_varP (i := 10) rfl (.inl rfl)) da_nil)))) (de_call G.toGood (DfS.toD (df__law_open T)) (by decide) (da_cons (de_varP (i := 2) rfl (.inl rfl)) (da_cons (de_sl G.toGood.K (de_varP (i := 10) rfl (.inl rfl)) do_none (do_some de_int)) da_nil))) (nomark _)) (dss_one (ds_ret de_bl)) dss_nil) (dsk_cons (ds_own G.toGood.nd rfl (.inl rfl) (dl_call G.toGood (df_still_open T) (by decide) (da_cons (de_varP (i := 1) rfl (.inr (.inl rfl))) (da_cons (de_ix G.toGood.K (de_varP (i := 5) rfl (.inr (.inl rfl))) de_int) (da_cons (de_lst da_nil) da_nil))))) (dsk_end (pss_clr rfl (.inr (.inl rfl)) (dss_frz 6 (dss_frz 11 (dss_one (ds_ret (de_and (de_cmp (cEq G.toGood.room) G.toGood.K (de_varP (i := 11) rfl (.inl rfl)) (de_varP (i := 2) rfl (.inl rfl)) (nomark _)) (de_and (de_cmp (cEq G.toGood.room) G.toGood.K (de_call G.toGood (DfS.toD (df_still_open T)) (by decide) (da_cons (de_varP (i := 1) rfl (.inr (.inl rfl))) (da_cons (de_list G.toGood.K (T.free 6) (da_cons (de_varP (i := 2) rfl (.inl rfl)) da_nil)) (da_cons (de_list G.toGood.K (T.free 6) (da_cons (de_varP (i := 3) rfl (.inl rfl)) da_nil)) da_nil)))) (de_varP (i := 4) rfl (.inl rfl)) (nomark _)) (de_one (de_cmp (cEq G.toGood.room) G.toGood.K (de_varP (i := 6) rfl (.inl rfl)) (de_add G.toGood.K (de_varP (i := 4) rfl (.inl rfl)) (de_lst (da_cons de_non da_nil))) (nomark _))))))))).pss)))))))))))))))))
end W

set_option Elab.async false
set_option linter.all false
set_option maxRecDepth 100000
set_option maxHeartbeats 1000000
namespace W
open PySem PL
/-! ### is_among, need_many -/
def amongB (a b : Int) : D → Bool
  | .int z => decide (a ≤ z) && decide (z ≤ b)
  | _ => false
theorem F_is_among_eq (t : D) (h : tyD t ≠ none) (a b : Int) : F_is_among [t, .int a, .int b] = .ok (.bool (amongB a b t)) := by
  unfold F_is_among g_is_among
  simp only [dIx_t0, dIx_t1, dIx_l0, dIx_l1, toItems, itemsOf, runF, runL, startE, endF, endL, R.bind_ok, R.bind_exc, R.bind_stuck, gSeq, gIf, gSet, gOwn, gRet, gRetL, gRetO, gDrop, gTgt, gT, gsC, gsN, gN, gFor, gApp, gExt, gFrz, gNil, gExc, eVar, eC, e1, e2, eA, aNil, aCons, eTup, eLst, eCall, lCall, listR, eChain, tV, tAndD, tOrD, tNotD, eAnd, eOr, eNot, eIf, eL, lDisp, lList, lRep, oNone, oSome, eSl, iSeq, iRng1, iRng2, iZipD, iEnumD, iRevD, lListRange, lLc, eSorted, eSortSet, eLenSet, eBor, tBor, tYesD, noE, toB, dCmp, dSub, dNeg, dInt, dLen, dIs, dIsNot, List.map_cons, List.map_nil, List.length_cons, List.length_nil, Nat.reduceAdd, Nat.reduceSub, Nat.reduceLeDiff, List.replicate, List.cons_append, List.nil_append, List.append_nil, List.getElem?_cons_zero, List.getElem?_cons_succ, List.set_cons_zero, List.set_cons_succ, if_true, if_false, reduceIte, Bool.not_true, Bool.not_false, Bool.false_eq_true, reduceCtorEq, isi_int t h, isi_bool t h]
  cases t
  case int z => by_cases h1 : a ≤ z <;> simp only [dIx_t0, dIx_t1, dIx_l0, dIx_l1, toItems, itemsOf, runF, runL, startE, endF, endL, R.bind_ok, R.bind_exc, R.bind_stuck, gSeq, gIf, gSet, gOwn, gRet, gRetL, gRetO, gDrop, gTgt, gT, gsC, gsN, gN, gFor, gApp, gExt, gFrz, gNil, gExc, eVar, eC, e1, e2, eA, aNil, aCons, eTup, eLst, eCall, lCall, listR, eChain, tV, tAndD, tOrD, tNotD, eAnd, eOr, eNot, eIf, eL, lDisp, lList, lRep, oNone, oSome, eSl, iSeq, iRng1, iRng2, iZipD, iEnumD, iRevD, lListRange, lLc, eSorted, eSortSet, eLenSet, eBor, tBor, tYesD, noE, toB, dCmp, dSub, dNeg, dInt, dLen, dIs, dIsNot, List.map_cons, List.map_nil, List.length_cons, List.length_nil, Nat.reduceAdd, Nat.reduceSub, Nat.reduceLeDiff, List.replicate, List.cons_append, List.nil_append, List.append_nil, List.getElem?_cons_zero, List.getElem?_cons_succ, List.set_cons_zero, List.set_cons_succ, if_true, if_false, reduceIte, Bool.not_true, Bool.not_false, Bool.false_eq_true, reduceCtorEq, amongB, h1, decide_true, decide_false, Bool.true_and, Bool.false_and]
  all_goals simp only [dIx_t0, dIx_t1, dIx_l0, dIx_l1, toItems, itemsOf, runF, runL, startE, endF, endL, R.bind_ok, R.bind_exc, R.bind_stuck, gSeq, gIf, gSet, gOwn, gRet, gRetL, gRetO, gDrop, gTgt, gT, gsC, gsN, gN, gFor, gApp, gExt, gFrz, gNil, gExc, eVar, eC, e1, e2, eA, aNil, aCons, eTup, eLst, eCall, lCall, listR, eChain, tV, tAndD, tOrD, tNotD, eAnd, eOr, eNot, eIf, eL, lDisp, lList, lRep, oNone, oSome, eSl, iSeq, iRng1, iRng2, iZipD, iEnumD, iRevD, lListRange, lLc, eSorted, eSortSet, eLenSet, eBor, tBor, tYesD, noE, toB, dCmp, dSub, dNeg, dInt, dLen, dIs, dIsNot, List.map_cons, List.map_nil, List.length_cons, List.length_nil, Nat.reduceAdd, Nat.reduceSub, Nat.reduceLeDiff, List.replicate, List.cons_append, List.nil_append, List.append_nil, List.getElem?_cons_zero, List.getElem?_cons_succ, List.set_cons_zero, List.set_cons_succ, if_true, if_false, reduceIte, Bool.not_true, Bool.not_false, Bool.false_eq_true, reduceCtorEq, amongB]
theorem F_need_many_eq (t : D) (h : tyD t ≠ none) : F_need_many [t] = if amongB 2 5 t = true then .ok .none else .exc 1 := by
  unfold F_need_many g_need_many
  simp only [dIx_t0, dIx_t1, dIx_l0, dIx_l1, toItems, itemsOf, runF, runL, startE, endF, endL, R.bind_ok, R.bind_exc, R.bind_stuck, gSeq, gIf, gSet, gOwn, gRet, gRetL, gRetO, gDrop, gTgt, gT, gsC, gsN, gN, gFor, gApp, gExt, gFrz, gNil, gExc, eVar, eC, e1, e2, eA, aNil, aCons, eTup, eLst, eCall, lCall, listR, eChain, tV, tAndD, tOrD, tNotD, eAnd, eOr, eNot, eIf, eL, lDisp, lList, lRep, oNone, oSome, eSl, iSeq, iRng1, iRng2, iZipD, iEnumD, iRevD, lListRange, lLc, eSorted, eSortSet, eLenSet, eBor, tBor, tYesD, noE, toB, dCmp, dSub, dNeg, dInt, dLen, dIs, dIsNot, List.map_cons, List.map_nil, List.length_cons, List.length_nil, Nat.reduceAdd, Nat.reduceSub, Nat.reduceLeDiff, List.replicate, List.cons_append, List.nil_append, List.append_nil, List.getElem?_cons_zero, List.getElem?_cons_succ, List.set_cons_zero, List.set_cons_succ, if_true, if_false, reduceIte, Bool.not_true, Bool.not_false, Bool.false_eq_true, reduceCtorEq, F_is_among_eq t h]
  cases amongB 2 5 t <;> simp only [dIx_t0, dIx_t1, dIx_l0, dIx_l1, toItems, itemsOf, runF, runL, startE, endF, endL, R.bind_ok, R.bind_exc, R.bind_stuck, gSeq, gIf, gSet, gOwn, gRet, gRetL, gRetO, gDrop, gTgt, gT, gsC, gsN, gN, gFor, gApp, gExt, gFrz, gNil, gExc, eVar, eC, e1, e2, eA, aNil, aCons, eTup, eLst, eCall, lCall, listR, eChain, tV, tAndD, tOrD, tNotD, eAnd, eOr, eNot, eIf, eL, lDisp, lList, lRep, oNone, oSome, eSl, iSeq, iRng1, iRng2, iZipD, iEnumD, iRevD, lListRange, lLc, eSorted, eSortSet, eLenSet, eBor, tBor, tYesD, noE, toB, dCmp, dSub, dNeg, dInt, dLen, dIs, dIsNot, List.map_cons, List.map_nil, List.length_cons, List.length_nil, Nat.reduceAdd, Nat.reduceSub, Nat.reduceLeDiff, List.replicate, List.cons_append, List.nil_append, List.append_nil, List.getElem?_cons_zero, List.getElem?_cons_succ, List.set_cons_zero, List.set_cons_succ, if_true, if_false, reduceIte, Bool.not_true, Bool.not_false, Bool.false_eq_true, reduceCtorEq]
theorem map_bool_all {α : Type} (p : α → Bool) (xs : List α) : dAll [.list (xs.map fun x => PyData.bool (p x))] = .ok (.bool (xs.all p)) := by
  have e : (xs.map fun x => PyData.bool (p x)) = (xs.map p).map PyData.bool := by rw [List.map_map]; rfl
  rw [e]
  simp only [dAll, boolsOf_map, List.all_map]
  rfl
theorem all_among {a b : Int} {xs : List D} (h : xs.all (amongB a b) = true) : ∃ ns : List Int, xs = ns.map PyData.int ∧ ∀ z ∈ ns, a ≤ z ∧ z ≤ b := by
  induction xs with
  | nil => exact ⟨[], rfl, by simp⟩
  | cons x r ih =>
    rw [List.all_cons, Bool.and_eq_true] at h
    obtain ⟨ns, rfl, h2⟩ := ih h.2
    cases x with
    | int z => exact ⟨z :: ns, rfl, fun y hy => (List.mem_cons.mp hy).elim (fun e => by subst e; simpa [amongB] using h.1) (h2 y)⟩
    | _ => simp [amongB] at h
/-! ### is_case, need_cases -/
def isCaseB (m : Int) : D → Bool
  | .tuple xs => decide ((xs.length : Int) = m) && xs.all (amongB (-1) 1)
  | _ => false
theorem c_case (m : Int) (xs : List D) (hx : ∀ x ∈ xs, tyD x ≠ none) (hl : xs.length ≤ 100000) : c_is_case_1 [.val (.int m), .val (.tuple xs), .no] = .ok (xs.map fun x => .bool (amongB (-1) 1 x)) := by
  unfold c_is_case_1
  simp only [dIx_t0, dIx_t1, dIx_l0, dIx_l1, toItems, itemsOf, runF, runL, startE, endF, endL, R.bind_ok, R.bind_exc, R.bind_stuck, gSeq, gIf, gSet, gOwn, gRet, gRetL, gRetO, gDrop, gTgt, gT, gsC, gsN, gN, gFor, gApp, gExt, gFrz, gNil, gExc, eVar, eC, e1, e2, eA, aNil, aCons, eTup, eLst, eCall, lCall, listR, eChain, tV, tAndD, tOrD, tNotD, eAnd, eOr, eNot, eIf, eL, lDisp, lList, lRep, oNone, oSome, eSl, iSeq, iRng1, iRng2, iZipD, iEnumD, iRevD, lListRange, lLc, eSorted, eSortSet, eLenSet, eBor, tBor, tYesD, noE, toB, dCmp, dSub, dNeg, dInt, dLen, dIs, dIsNot, List.map_cons, List.map_nil, List.length_cons, List.length_nil, Nat.reduceAdd, Nat.reduceSub, Nat.reduceLeDiff, List.replicate, List.cons_append, List.nil_append, List.append_nil, List.getElem?_cons_zero, List.getElem?_cons_succ, List.set_cons_zero, List.set_cons_succ, if_true, if_false, reduceIte, Bool.not_true, Bool.not_false, Bool.false_eq_true, reduceCtorEq]
  rw [if_pos ⟨hl, rfl⟩]
  rw [eachR_map (f := fun x => .bool (amongB (-1) 1 x))]
  intro x h
  unfold lcStep
  simp only [dIx_t0, dIx_t1, dIx_l0, dIx_l1, toItems, itemsOf, runF, runL, startE, endF, endL, R.bind_ok, R.bind_exc, R.bind_stuck, gSeq, gIf, gSet, gOwn, gRet, gRetL, gRetO, gDrop, gTgt, gT, gsC, gsN, gN, gFor, gApp, gExt, gFrz, gNil, gExc, eVar, eC, e1, e2, eA, aNil, aCons, eTup, eLst, eCall, lCall, listR, eChain, tV, tAndD, tOrD, tNotD, eAnd, eOr, eNot, eIf, eL, lDisp, lList, lRep, oNone, oSome, eSl, iSeq, iRng1, iRng2, iZipD, iEnumD, iRevD, lListRange, lLc, eSorted, eSortSet, eLenSet, eBor, tBor, tYesD, noE, toB, dCmp, dSub, dNeg, dInt, dLen, dIs, dIsNot, List.map_cons, List.map_nil, List.length_cons, List.length_nil, Nat.reduceAdd, Nat.reduceSub, Nat.reduceLeDiff, List.replicate, List.cons_append, List.nil_append, List.append_nil, List.getElem?_cons_zero, List.getElem?_cons_succ, List.set_cons_zero, List.set_cons_succ, if_true, if_false, reduceIte, Bool.not_true, Bool.not_false, Bool.false_eq_true, reduceCtorEq, wipeE, Int.reduceNeg, F_is_among_eq x (hx x h)]
/-- what may be asked about -/
def askD (t : D) : Prop := tyD t ≠ none ∧ ∀ xs, t = .tuple xs → (∀ x ∈ xs, tyD x ≠ none) ∧ xs.length ≤ 100000
theorem F_is_case_eq (m : Int) (t : D) (h : askD t) : F_is_case [.int m, t] = .ok (.bool (isCaseB m t)) := by
  unfold F_is_case g_is_case
  simp only [dIx_t0, dIx_t1, dIx_l0, dIx_l1, toItems, itemsOf, runF, runL, startE, endF, endL, R.bind_ok, R.bind_exc, R.bind_stuck, gSeq, gIf, gSet, gOwn, gRet, gRetL, gRetO, gDrop, gTgt, gT, gsC, gsN, gN, gFor, gApp, gExt, gFrz, gNil, gExc, eVar, eC, e1, e2, eA, aNil, aCons, eTup, eLst, eCall, lCall, listR, eChain, tV, tAndD, tOrD, tNotD, eAnd, eOr, eNot, eIf, eL, lDisp, lList, lRep, oNone, oSome, eSl, iSeq, iRng1, iRng2, iZipD, iEnumD, iRevD, lListRange, lLc, eSorted, eSortSet, eLenSet, eBor, tBor, tYesD, noE, toB, dCmp, dSub, dNeg, dInt, dLen, dIs, dIsNot, List.map_cons, List.map_nil, List.length_cons, List.length_nil, Nat.reduceAdd, Nat.reduceSub, Nat.reduceLeDiff, List.replicate, List.cons_append, List.nil_append, List.append_nil, List.getElem?_cons_zero, List.getElem?_cons_succ, List.set_cons_zero, List.set_cons_succ, if_true, if_false, reduceIte, Bool.not_true, Bool.not_false, Bool.false_eq_true, reduceCtorEq, isi_tuple t h.1]
  cases t
  case tuple xs =>
    obtain ⟨hx, hl⟩ := h.2 xs rfl
    simp only [dIx_t0, dIx_t1, dIx_l0, dIx_l1, toItems, itemsOf, runF, runL, startE, endF, endL, R.bind_ok, R.bind_exc, R.bind_stuck, gSeq, gIf, gSet, gOwn, gRet, gRetL, gRetO, gDrop, gTgt, gT, gsC, gsN, gN, gFor, gApp, gExt, gFrz, gNil, gExc, eVar, eC, e1, e2, eA, aNil, aCons, eTup, eLst, eCall, lCall, listR, eChain, tV, tAndD, tOrD, tNotD, eAnd, eOr, eNot, eIf, eL, lDisp, lList, lRep, oNone, oSome, eSl, iSeq, iRng1, iRng2, iZipD, iEnumD, iRevD, lListRange, lLc, eSorted, eSortSet, eLenSet, eBor, tBor, tYesD, noE, toB, dCmp, dSub, dNeg, dInt, dLen, dIs, dIsNot, List.map_cons, List.map_nil, List.length_cons, List.length_nil, Nat.reduceAdd, Nat.reduceSub, Nat.reduceLeDiff, List.replicate, List.cons_append, List.nil_append, List.append_nil, List.getElem?_cons_zero, List.getElem?_cons_succ, List.set_cons_zero, List.set_cons_succ, if_true, if_false, reduceIte, Bool.not_true, Bool.not_false, Bool.false_eq_true, reduceCtorEq, dNe_int]
    by_cases hm : (xs.length : Int) = m
    · simp only [dIx_t0, dIx_t1, dIx_l0, dIx_l1, toItems, itemsOf, runF, runL, startE, endF, endL, R.bind_ok, R.bind_exc, R.bind_stuck, gSeq, gIf, gSet, gOwn, gRet, gRetL, gRetO, gDrop, gTgt, gT, gsC, gsN, gN, gFor, gApp, gExt, gFrz, gNil, gExc, eVar, eC, e1, e2, eA, aNil, aCons, eTup, eLst, eCall, lCall, listR, eChain, tV, tAndD, tOrD, tNotD, eAnd, eOr, eNot, eIf, eL, lDisp, lList, lRep, oNone, oSome, eSl, iSeq, iRng1, iRng2, iZipD, iEnumD, iRevD, lListRange, lLc, eSorted, eSortSet, eLenSet, eBor, tBor, tYesD, noE, toB, dCmp, dSub, dNeg, dInt, dLen, dIs, dIsNot, List.map_cons, List.map_nil, List.length_cons, List.length_nil, Nat.reduceAdd, Nat.reduceSub, Nat.reduceLeDiff, List.replicate, List.cons_append, List.nil_append, List.append_nil, List.getElem?_cons_zero, List.getElem?_cons_succ, List.set_cons_zero, List.set_cons_succ, if_true, if_false, reduceIte, Bool.not_true, Bool.not_false, Bool.false_eq_true, reduceCtorEq, decide_eq_true hm, c_case m xs hx hl, map_bool_all, isCaseB, Bool.true_and]
    · simp only [dIx_t0, dIx_t1, dIx_l0, dIx_l1, toItems, itemsOf, runF, runL, startE, endF, endL, R.bind_ok, R.bind_exc, R.bind_stuck, gSeq, gIf, gSet, gOwn, gRet, gRetL, gRetO, gDrop, gTgt, gT, gsC, gsN, gN, gFor, gApp, gExt, gFrz, gNil, gExc, eVar, eC, e1, e2, eA, aNil, aCons, eTup, eLst, eCall, lCall, listR, eChain, tV, tAndD, tOrD, tNotD, eAnd, eOr, eNot, eIf, eL, lDisp, lList, lRep, oNone, oSome, eSl, iSeq, iRng1, iRng2, iZipD, iEnumD, iRevD, lListRange, lLc, eSorted, eSortSet, eLenSet, eBor, tBor, tYesD, noE, toB, dCmp, dSub, dNeg, dInt, dLen, dIs, dIsNot, List.map_cons, List.map_nil, List.length_cons, List.length_nil, Nat.reduceAdd, Nat.reduceSub, Nat.reduceLeDiff, List.replicate, List.cons_append, List.nil_append, List.append_nil, List.getElem?_cons_zero, List.getElem?_cons_succ, List.set_cons_zero, List.set_cons_succ, if_true, if_false, reduceIte, Bool.not_true, Bool.not_false, Bool.false_eq_true, reduceCtorEq, decide_eq_false hm, isCaseB, Bool.false_and]
  all_goals simp only [dIx_t0, dIx_t1, dIx_l0, dIx_l1, toItems, itemsOf, runF, runL, startE, endF, endL, R.bind_ok, R.bind_exc, R.bind_stuck, gSeq, gIf, gSet, gOwn, gRet, gRetL, gRetO, gDrop, gTgt, gT, gsC, gsN, gN, gFor, gApp, gExt, gFrz, gNil, gExc, eVar, eC, e1, e2, eA, aNil, aCons, eTup, eLst, eCall, lCall, listR, eChain, tV, tAndD, tOrD, tNotD, eAnd, eOr, eNot, eIf, eL, lDisp, lList, lRep, oNone, oSome, eSl, iSeq, iRng1, iRng2, iZipD, iEnumD, iRevD, lListRange, lLc, eSorted, eSortSet, eLenSet, eBor, tBor, tYesD, noE, toB, dCmp, dSub, dNeg, dInt, dLen, dIs, dIsNot, List.map_cons, List.map_nil, List.length_cons, List.length_nil, Nat.reduceAdd, Nat.reduceSub, Nat.reduceLeDiff, List.replicate, List.cons_append, List.nil_append, List.append_nil, List.getElem?_cons_zero, List.getElem?_cons_succ, List.set_cons_zero, List.set_cons_succ, if_true, if_false, reduceIte, Bool.not_true, Bool.not_false, Bool.false_eq_true, reduceCtorEq, isCaseB]
theorem isCaseB_sh {m : Int} {t : D} (h : isCaseB m t = true) : sh 1 t ∧ exact t = true := by
  cases t with
  | tuple xs =>
    simp only [isCaseB, Bool.and_eq_true] at h
    obtain ⟨ns, rfl, _⟩ := all_among h.2
    exact ⟨sh_tuple (sh_ints _), by simpa [exact] using exact_ints ns⟩
  | _ => simp [isCaseB] at h
def goodFrom (m : Int) : List D → List D → Bool
  | _, [] => true
  | pre, x :: r => isCaseB m x && !(pre.any fun z => PyData.eqv z x) && goodFrom m (pre ++ [x]) r
theorem cutD_take (xs : List D) (k : Nat) (h : k ≤ xs.length) : cutD xs none (some (k : Int)) = xs.take k := by
  unfold cutD
  rw [HT.sIx_none, HT.sIx_nat, Nat.min_eq_left h]
  rfl
theorem cases_step (m : Int) (full : List D) (k : Nat) (z : D) (hz : askD z) (hk : k ≤ full.length) (hp : ∀ x ∈ full.take k, isCaseB m x = true) :
    g_need_cases_L1 [.val (.int m), .val (.list full), .val (.int k), .val z] =
      if (isCaseB m z && !((full.take k).any fun y => PyData.eqv y z)) = true then .ok (.nx, [.val (.int m), .val (.list full), .val (.int k), .val z]) else .exc 2 := by
  unfold g_need_cases_L1
  simp only [dIx_t0, dIx_t1, dIx_l0, dIx_l1, toItems, itemsOf, runF, runL, startE, endF, endL, R.bind_ok, R.bind_exc, R.bind_stuck, gSeq, gIf, gSet, gOwn, gRet, gRetL, gRetO, gDrop, gTgt, gT, gsC, gsN, gN, gFor, gApp, gExt, gFrz, gNil, gExc, eVar, eC, e1, e2, eA, aNil, aCons, eTup, eLst, eCall, lCall, listR, eChain, tV, tAndD, tOrD, tNotD, eAnd, eOr, eNot, eIf, eL, lDisp, lList, lRep, oNone, oSome, eSl, iSeq, iRng1, iRng2, iZipD, iEnumD, iRevD, lListRange, lLc, eSorted, eSortSet, eLenSet, eBor, tBor, tYesD, noE, toB, dCmp, dSub, dNeg, dInt, dLen, dIs, dIsNot, List.map_cons, List.map_nil, List.length_cons, List.length_nil, Nat.reduceAdd, Nat.reduceSub, Nat.reduceLeDiff, List.replicate, List.cons_append, List.nil_append, List.append_nil, List.getElem?_cons_zero, List.getElem?_cons_succ, List.set_cons_zero, List.set_cons_succ, if_true, if_false, reduceIte, Bool.not_true, Bool.not_false, Bool.false_eq_true, reduceCtorEq, F_is_case_eq m z hz, dSl, cutD_take full k hk, dIn]
  cases h1 : isCaseB m z
  · simp only [dIx_t0, dIx_t1, dIx_l0, dIx_l1, toItems, itemsOf, runF, runL, startE, endF, endL, R.bind_ok, R.bind_exc, R.bind_stuck, gSeq, gIf, gSet, gOwn, gRet, gRetL, gRetO, gDrop, gTgt, gT, gsC, gsN, gN, gFor, gApp, gExt, gFrz, gNil, gExc, eVar, eC, e1, e2, eA, aNil, aCons, eTup, eLst, eCall, lCall, listR, eChain, tV, tAndD, tOrD, tNotD, eAnd, eOr, eNot, eIf, eL, lDisp, lList, lRep, oNone, oSome, eSl, iSeq, iRng1, iRng2, iZipD, iEnumD, iRevD, lListRange, lLc, eSorted, eSortSet, eLenSet, eBor, tBor, tYesD, noE, toB, dCmp, dSub, dNeg, dInt, dLen, dIs, dIsNot, List.map_cons, List.map_nil, List.length_cons, List.length_nil, Nat.reduceAdd, Nat.reduceSub, Nat.reduceLeDiff, List.replicate, List.cons_append, List.nil_append, List.append_nil, List.getElem?_cons_zero, List.getElem?_cons_succ, List.set_cons_zero, List.set_cons_succ, if_true, if_false, reduceIte, Bool.not_true, Bool.not_false, Bool.false_eq_true, reduceCtorEq, Bool.false_and]
  · have s1 : SeqAt.shaped z = true := shaped_sh (isCaseB_sh h1).1
    have s2 : SeqAt.shaped (.list (full.take k)) = true := shaped_sh (sh_list fun x hx => (isCaseB_sh (hp x hx)).1)
    simp only [dIx_t0, dIx_t1, dIx_l0, dIx_l1, toItems, itemsOf, runF, runL, startE, endF, endL, R.bind_ok, R.bind_exc, R.bind_stuck, gSeq, gIf, gSet, gOwn, gRet, gRetL, gRetO, gDrop, gTgt, gT, gsC, gsN, gN, gFor, gApp, gExt, gFrz, gNil, gExc, eVar, eC, e1, e2, eA, aNil, aCons, eTup, eLst, eCall, lCall, listR, eChain, tV, tAndD, tOrD, tNotD, eAnd, eOr, eNot, eIf, eL, lDisp, lList, lRep, oNone, oSome, eSl, iSeq, iRng1, iRng2, iZipD, iEnumD, iRevD, lListRange, lLc, eSorted, eSortSet, eLenSet, eBor, tBor, tYesD, noE, toB, dCmp, dSub, dNeg, dInt, dLen, dIs, dIsNot, List.map_cons, List.map_nil, List.length_cons, List.length_nil, Nat.reduceAdd, Nat.reduceSub, Nat.reduceLeDiff, List.replicate, List.cons_append, List.nil_append, List.append_nil, List.getElem?_cons_zero, List.getElem?_cons_succ, List.set_cons_zero, List.set_cons_succ, if_true, if_false, reduceIte, Bool.not_true, Bool.not_false, Bool.false_eq_true, reduceCtorEq, s1, s2, Bool.and_self, Bool.true_and]
    cases (full.take k).any fun y => PyData.eqv y z <;> simp only [dIx_t0, dIx_t1, dIx_l0, dIx_l1, toItems, itemsOf, runF, runL, startE, endF, endL, R.bind_ok, R.bind_exc, R.bind_stuck, gSeq, gIf, gSet, gOwn, gRet, gRetL, gRetO, gDrop, gTgt, gT, gsC, gsN, gN, gFor, gApp, gExt, gFrz, gNil, gExc, eVar, eC, e1, e2, eA, aNil, aCons, eTup, eLst, eCall, lCall, listR, eChain, tV, tAndD, tOrD, tNotD, eAnd, eOr, eNot, eIf, eL, lDisp, lList, lRep, oNone, oSome, eSl, iSeq, iRng1, iRng2, iZipD, iEnumD, iRevD, lListRange, lLc, eSorted, eSortSet, eLenSet, eBor, tBor, tYesD, noE, toB, dCmp, dSub, dNeg, dInt, dLen, dIs, dIsNot, List.map_cons, List.map_nil, List.length_cons, List.length_nil, Nat.reduceAdd, Nat.reduceSub, Nat.reduceLeDiff, List.replicate, List.cons_append, List.nil_append, List.append_nil, List.getElem?_cons_zero, List.getElem?_cons_succ, List.set_cons_zero, List.set_cons_succ, if_true, if_false, reduceIte, Bool.not_true, Bool.not_false, Bool.false_eq_true, reduceCtorEq]
theorem cases_loop (m : Int) (full : List D) : ∀ (suf : List D) (k : Nat) (s2 s3 : PL.Slot noObj), full.drop k = suf → k ≤ full.length → (∀ x ∈ suf, askD x) → (∀ x ∈ full.take k, isCaseB m x = true) →
    ∃ s2' s3', loopF (gT 2 (gsC (gN 2) (gsC (gN 3) gsN))) g_need_cases_L1 (enumFrom k suf) [.val (.int m), .val (.list full), s2, s3] =
      if goodFrom m (full.take k) suf = true then .ok (.nx, [.val (.int m), .val (.list full), s2', s3']) else .exc 2
  | [], k, s2, s3, _, _, _, _ => ⟨s2, s3, by simp only [dIx_t0, dIx_t1, dIx_l0, dIx_l1, toItems, itemsOf, runF, runL, startE, endF, endL, R.bind_ok, R.bind_exc, R.bind_stuck, gSeq, gIf, gSet, gOwn, gRet, gRetL, gRetO, gDrop, gTgt, gT, gsC, gsN, gN, gFor, gApp, gExt, gFrz, gNil, gExc, eVar, eC, e1, e2, eA, aNil, aCons, eTup, eLst, eCall, lCall, listR, eChain, tV, tAndD, tOrD, tNotD, eAnd, eOr, eNot, eIf, eL, lDisp, lList, lRep, oNone, oSome, eSl, iSeq, iRng1, iRng2, iZipD, iEnumD, iRevD, lListRange, lLc, eSorted, eSortSet, eLenSet, eBor, tBor, tYesD, noE, toB, dCmp, dSub, dNeg, dInt, dLen, dIs, dIsNot, List.map_cons, List.map_nil, List.length_cons, List.length_nil, Nat.reduceAdd, Nat.reduceSub, Nat.reduceLeDiff, List.replicate, List.cons_append, List.nil_append, List.append_nil, List.getElem?_cons_zero, List.getElem?_cons_succ, List.set_cons_zero, List.set_cons_succ, if_true, if_false, reduceIte, Bool.not_true, Bool.not_false, Bool.false_eq_true, reduceCtorEq, loopF, enumFrom, goodFrom]⟩
  | z :: suf, k, s2, s3, hf, hk, ha, hp => by
    have hlt : k < full.length := by
      by_cases h : k < full.length
      · exact h
      · rw [List.drop_eq_nil_of_le (by omega)] at hf; cases hf
    have hk' : full[k]? = some z := by
      have := congrArg (fun l : List D => l[0]?) hf
      simpa using this
    have hd : full.drop (k + 1) = suf := by
      have := congrArg (List.drop 1) hf
      simpa [List.drop_drop, Nat.add_comm] using this
    have ht : full.take (k + 1) = full.take k ++ [z] := by rw [List.take_add_one, hk']; rfl
    simp only [dIx_t0, dIx_t1, dIx_l0, dIx_l1, toItems, itemsOf, runF, runL, startE, endF, endL, R.bind_ok, R.bind_exc, R.bind_stuck, gSeq, gIf, gSet, gOwn, gRet, gRetL, gRetO, gDrop, gTgt, gT, gsC, gsN, gN, gFor, gApp, gExt, gFrz, gNil, gExc, eVar, eC, e1, e2, eA, aNil, aCons, eTup, eLst, eCall, lCall, listR, eChain, tV, tAndD, tOrD, tNotD, eAnd, eOr, eNot, eIf, eL, lDisp, lList, lRep, oNone, oSome, eSl, iSeq, iRng1, iRng2, iZipD, iEnumD, iRevD, lListRange, lLc, eSorted, eSortSet, eLenSet, eBor, tBor, tYesD, noE, toB, dCmp, dSub, dNeg, dInt, dLen, dIs, dIsNot, List.map_cons, List.map_nil, List.length_cons, List.length_nil, Nat.reduceAdd, Nat.reduceSub, Nat.reduceLeDiff, List.replicate, List.cons_append, List.nil_append, List.append_nil, List.getElem?_cons_zero, List.getElem?_cons_succ, List.set_cons_zero, List.set_cons_succ, if_true, if_false, reduceIte, Bool.not_true, Bool.not_false, Bool.false_eq_true, reduceCtorEq, loopF, enumFrom, cases_step m full k z (ha z (List.mem_cons_self ..)) hk hp, goodFrom]
    by_cases hc : (isCaseB m z && !((full.take k).any fun y => PyData.eqv y z)) = true
    · simp only [hc]
      simp only [dIx_t0, dIx_t1, dIx_l0, dIx_l1, toItems, itemsOf, runF, runL, startE, endF, endL, R.bind_ok, R.bind_exc, R.bind_stuck, gSeq, gIf, gSet, gOwn, gRet, gRetL, gRetO, gDrop, gTgt, gT, gsC, gsN, gN, gFor, gApp, gExt, gFrz, gNil, gExc, eVar, eC, e1, e2, eA, aNil, aCons, eTup, eLst, eCall, lCall, listR, eChain, tV, tAndD, tOrD, tNotD, eAnd, eOr, eNot, eIf, eL, lDisp, lList, lRep, oNone, oSome, eSl, iSeq, iRng1, iRng2, iZipD, iEnumD, iRevD, lListRange, lLc, eSorted, eSortSet, eLenSet, eBor, tBor, tYesD, noE, toB, dCmp, dSub, dNeg, dInt, dLen, dIs, dIsNot, List.map_cons, List.map_nil, List.length_cons, List.length_nil, Nat.reduceAdd, Nat.reduceSub, Nat.reduceLeDiff, List.replicate, List.cons_append, List.nil_append, List.append_nil, List.getElem?_cons_zero, List.getElem?_cons_succ, List.set_cons_zero, List.set_cons_succ, if_true, if_false, reduceIte, Bool.not_true, Bool.not_false, Bool.false_eq_true, reduceCtorEq, Bool.true_and]
      have h1 := (Bool.and_eq_true_iff.mp hc).1
      obtain ⟨a, b, e⟩ := cases_loop m full suf (k + 1) (.val (.int k)) (.val z) hd hlt (fun x hx => ha x (List.mem_cons_of_mem _ hx)) (fun x hx => by
        rw [ht] at hx
        rcases List.mem_append.mp hx with hx | hx
        · exact hp x hx
        · rw [List.mem_singleton] at hx; subst hx; exact h1)
      rw [ht] at e
      exact ⟨a, b, e⟩
    · rw [Bool.not_eq_true] at hc
      simp only [hc]
      simp only [dIx_t0, dIx_t1, dIx_l0, dIx_l1, toItems, itemsOf, runF, runL, startE, endF, endL, R.bind_ok, R.bind_exc, R.bind_stuck, gSeq, gIf, gSet, gOwn, gRet, gRetL, gRetO, gDrop, gTgt, gT, gsC, gsN, gN, gFor, gApp, gExt, gFrz, gNil, gExc, eVar, eC, e1, e2, eA, aNil, aCons, eTup, eLst, eCall, lCall, listR, eChain, tV, tAndD, tOrD, tNotD, eAnd, eOr, eNot, eIf, eL, lDisp, lList, lRep, oNone, oSome, eSl, iSeq, iRng1, iRng2, iZipD, iEnumD, iRevD, lListRange, lLc, eSorted, eSortSet, eLenSet, eBor, tBor, tYesD, noE, toB, dCmp, dSub, dNeg, dInt, dLen, dIs, dIsNot, List.map_cons, List.map_nil, List.length_cons, List.length_nil, Nat.reduceAdd, Nat.reduceSub, Nat.reduceLeDiff, List.replicate, List.cons_append, List.nil_append, List.append_nil, List.getElem?_cons_zero, List.getElem?_cons_succ, List.set_cons_zero, List.set_cons_succ, if_true, if_false, reduceIte, Bool.not_true, Bool.not_false, Bool.false_eq_true, reduceCtorEq, Bool.false_and]
      exact ⟨s2, s3, trivial⟩
def goodCases (m : Int) : D → Bool
  | .list xs => decide (1 ≤ xs.length ∧ xs.length ≤ 12) && goodFrom m [] xs
  | _ => false
theorem F_need_cases_many (t c : D) (h : tyD t ≠ none) (h2 : amongB 2 5 t = false) : F_need_cases [t, c] = .exc 1 := by
  unfold F_need_cases g_need_cases
  simp only [dIx_t0, dIx_t1, dIx_l0, dIx_l1, toItems, itemsOf, runF, runL, startE, endF, endL, R.bind_ok, R.bind_exc, R.bind_stuck, gSeq, gIf, gSet, gOwn, gRet, gRetL, gRetO, gDrop, gTgt, gT, gsC, gsN, gN, gFor, gApp, gExt, gFrz, gNil, gExc, eVar, eC, e1, e2, eA, aNil, aCons, eTup, eLst, eCall, lCall, listR, eChain, tV, tAndD, tOrD, tNotD, eAnd, eOr, eNot, eIf, eL, lDisp, lList, lRep, oNone, oSome, eSl, iSeq, iRng1, iRng2, iZipD, iEnumD, iRevD, lListRange, lLc, eSorted, eSortSet, eLenSet, eBor, tBor, tYesD, noE, toB, dCmp, dSub, dNeg, dInt, dLen, dIs, dIsNot, List.map_cons, List.map_nil, List.length_cons, List.length_nil, Nat.reduceAdd, Nat.reduceSub, Nat.reduceLeDiff, List.replicate, List.cons_append, List.nil_append, List.append_nil, List.getElem?_cons_zero, List.getElem?_cons_succ, List.set_cons_zero, List.set_cons_succ, if_true, if_false, reduceIte, Bool.not_true, Bool.not_false, Bool.false_eq_true, reduceCtorEq, F_need_many_eq t h, h2]
theorem F_need_cases_eq (m : Int) (c : D) (hm : amongB 2 5 (.int m) = true) (hc : tyD c ≠ none) (ha : ∀ xs, c = .list xs → xs.length ≤ 12 → ∀ x ∈ xs, askD x) :
    F_need_cases [.int m, c] = if goodCases m c = true then .ok .none else .exc 2 := by
  unfold F_need_cases g_need_cases
  simp only [dIx_t0, dIx_t1, dIx_l0, dIx_l1, toItems, itemsOf, runF, runL, startE, endF, endL, R.bind_ok, R.bind_exc, R.bind_stuck, gSeq, gIf, gSet, gOwn, gRet, gRetL, gRetO, gDrop, gTgt, gT, gsC, gsN, gN, gFor, gApp, gExt, gFrz, gNil, gExc, eVar, eC, e1, e2, eA, aNil, aCons, eTup, eLst, eCall, lCall, listR, eChain, tV, tAndD, tOrD, tNotD, eAnd, eOr, eNot, eIf, eL, lDisp, lList, lRep, oNone, oSome, eSl, iSeq, iRng1, iRng2, iZipD, iEnumD, iRevD, lListRange, lLc, eSorted, eSortSet, eLenSet, eBor, tBor, tYesD, noE, toB, dCmp, dSub, dNeg, dInt, dLen, dIs, dIsNot, List.map_cons, List.map_nil, List.length_cons, List.length_nil, Nat.reduceAdd, Nat.reduceSub, Nat.reduceLeDiff, List.replicate, List.cons_append, List.nil_append, List.append_nil, List.getElem?_cons_zero, List.getElem?_cons_succ, List.set_cons_zero, List.set_cons_succ, if_true, if_false, reduceIte, Bool.not_true, Bool.not_false, Bool.false_eq_true, reduceCtorEq, F_need_many_eq (.int m) (by simp [tyD]), hm, isi_list c hc]
  cases c
  case list xs =>
    simp only [dIx_t0, dIx_t1, dIx_l0, dIx_l1, toItems, itemsOf, runF, runL, startE, endF, endL, R.bind_ok, R.bind_exc, R.bind_stuck, gSeq, gIf, gSet, gOwn, gRet, gRetL, gRetO, gDrop, gTgt, gT, gsC, gsN, gN, gFor, gApp, gExt, gFrz, gNil, gExc, eVar, eC, e1, e2, eA, aNil, aCons, eTup, eLst, eCall, lCall, listR, eChain, tV, tAndD, tOrD, tNotD, eAnd, eOr, eNot, eIf, eL, lDisp, lList, lRep, oNone, oSome, eSl, iSeq, iRng1, iRng2, iZipD, iEnumD, iRevD, lListRange, lLc, eSorted, eSortSet, eLenSet, eBor, tBor, tYesD, noE, toB, dCmp, dSub, dNeg, dInt, dLen, dIs, dIsNot, List.map_cons, List.map_nil, List.length_cons, List.length_nil, Nat.reduceAdd, Nat.reduceSub, Nat.reduceLeDiff, List.replicate, List.cons_append, List.nil_append, List.append_nil, List.getElem?_cons_zero, List.getElem?_cons_succ, List.set_cons_zero, List.set_cons_succ, if_true, if_false, reduceIte, Bool.not_true, Bool.not_false, Bool.false_eq_true, reduceCtorEq]
    by_cases h1 : (1 : Int) ≤ xs.length
    · by_cases h2 : (xs.length : Int) ≤ 12
      · have h3 : (1 ≤ xs.length ∧ xs.length ≤ 12) := by omega
        obtain ⟨a, b, e⟩ := cases_loop m xs xs 0 .no .no rfl (Nat.zero_le _) (ha xs rfl h3.2) (by simp)
        simp only [dIx_t0, dIx_t1, dIx_l0, dIx_l1, toItems, itemsOf, runF, runL, startE, endF, endL, R.bind_ok, R.bind_exc, R.bind_stuck, gSeq, gIf, gSet, gOwn, gRet, gRetL, gRetO, gDrop, gTgt, gT, gsC, gsN, gN, gFor, gApp, gExt, gFrz, gNil, gExc, eVar, eC, e1, e2, eA, aNil, aCons, eTup, eLst, eCall, lCall, listR, eChain, tV, tAndD, tOrD, tNotD, eAnd, eOr, eNot, eIf, eL, lDisp, lList, lRep, oNone, oSome, eSl, iSeq, iRng1, iRng2, iZipD, iEnumD, iRevD, lListRange, lLc, eSorted, eSortSet, eLenSet, eBor, tBor, tYesD, noE, toB, dCmp, dSub, dNeg, dInt, dLen, dIs, dIsNot, List.map_cons, List.map_nil, List.length_cons, List.length_nil, Nat.reduceAdd, Nat.reduceSub, Nat.reduceLeDiff, List.replicate, List.cons_append, List.nil_append, List.append_nil, List.getElem?_cons_zero, List.getElem?_cons_succ, List.set_cons_zero, List.set_cons_succ, if_true, if_false, reduceIte, Bool.not_true, Bool.not_false, Bool.false_eq_true, reduceCtorEq, decide_eq_true h1, decide_eq_true h2, goodCases, decide_eq_true h3, Bool.true_and, e]
        rw [List.take_zero]
        cases goodFrom m [] xs <;> simp only [dIx_t0, dIx_t1, dIx_l0, dIx_l1, toItems, itemsOf, runF, runL, startE, endF, endL, R.bind_ok, R.bind_exc, R.bind_stuck, gSeq, gIf, gSet, gOwn, gRet, gRetL, gRetO, gDrop, gTgt, gT, gsC, gsN, gN, gFor, gApp, gExt, gFrz, gNil, gExc, eVar, eC, e1, e2, eA, aNil, aCons, eTup, eLst, eCall, lCall, listR, eChain, tV, tAndD, tOrD, tNotD, eAnd, eOr, eNot, eIf, eL, lDisp, lList, lRep, oNone, oSome, eSl, iSeq, iRng1, iRng2, iZipD, iEnumD, iRevD, lListRange, lLc, eSorted, eSortSet, eLenSet, eBor, tBor, tYesD, noE, toB, dCmp, dSub, dNeg, dInt, dLen, dIs, dIsNot, List.map_cons, List.map_nil, List.length_cons, List.length_nil, Nat.reduceAdd, Nat.reduceSub, Nat.reduceLeDiff, List.replicate, List.cons_append, List.nil_append, List.append_nil, List.getElem?_cons_zero, List.getElem?_cons_succ, List.set_cons_zero, List.set_cons_succ, if_true, if_false, reduceIte, Bool.not_true, Bool.not_false, Bool.false_eq_true, reduceCtorEq]
      · have h3 : ¬ (1 ≤ xs.length ∧ xs.length ≤ 12) := by omega
        simp only [dIx_t0, dIx_t1, dIx_l0, dIx_l1, toItems, itemsOf, runF, runL, startE, endF, endL, R.bind_ok, R.bind_exc, R.bind_stuck, gSeq, gIf, gSet, gOwn, gRet, gRetL, gRetO, gDrop, gTgt, gT, gsC, gsN, gN, gFor, gApp, gExt, gFrz, gNil, gExc, eVar, eC, e1, e2, eA, aNil, aCons, eTup, eLst, eCall, lCall, listR, eChain, tV, tAndD, tOrD, tNotD, eAnd, eOr, eNot, eIf, eL, lDisp, lList, lRep, oNone, oSome, eSl, iSeq, iRng1, iRng2, iZipD, iEnumD, iRevD, lListRange, lLc, eSorted, eSortSet, eLenSet, eBor, tBor, tYesD, noE, toB, dCmp, dSub, dNeg, dInt, dLen, dIs, dIsNot, List.map_cons, List.map_nil, List.length_cons, List.length_nil, Nat.reduceAdd, Nat.reduceSub, Nat.reduceLeDiff, List.replicate, List.cons_append, List.nil_append, List.append_nil, List.getElem?_cons_zero, List.getElem?_cons_succ, List.set_cons_zero, List.set_cons_succ, if_true, if_false, reduceIte, Bool.not_true, Bool.not_false, Bool.false_eq_true, reduceCtorEq, decide_eq_true h1, decide_eq_false h2, goodCases, decide_eq_false h3, Bool.false_and]
    · have h3 : ¬ (1 ≤ xs.length ∧ xs.length ≤ 12) := by omega
      simp only [dIx_t0, dIx_t1, dIx_l0, dIx_l1, toItems, itemsOf, runF, runL, startE, endF, endL, R.bind_ok, R.bind_exc, R.bind_stuck, gSeq, gIf, gSet, gOwn, gRet, gRetL, gRetO, gDrop, gTgt, gT, gsC, gsN, gN, gFor, gApp, gExt, gFrz, gNil, gExc, eVar, eC, e1, e2, eA, aNil, aCons, eTup, eLst, eCall, lCall, listR, eChain, tV, tAndD, tOrD, tNotD, eAnd, eOr, eNot, eIf, eL, lDisp, lList, lRep, oNone, oSome, eSl, iSeq, iRng1, iRng2, iZipD, iEnumD, iRevD, lListRange, lLc, eSorted, eSortSet, eLenSet, eBor, tBor, tYesD, noE, toB, dCmp, dSub, dNeg, dInt, dLen, dIs, dIsNot, List.map_cons, List.map_nil, List.length_cons, List.length_nil, Nat.reduceAdd, Nat.reduceSub, Nat.reduceLeDiff, List.replicate, List.cons_append, List.nil_append, List.append_nil, List.getElem?_cons_zero, List.getElem?_cons_succ, List.set_cons_zero, List.set_cons_succ, if_true, if_false, reduceIte, Bool.not_true, Bool.not_false, Bool.false_eq_true, reduceCtorEq, decide_eq_false h1, goodCases, decide_eq_false h3, Bool.false_and]
  all_goals simp only [dIx_t0, dIx_t1, dIx_l0, dIx_l1, toItems, itemsOf, runF, runL, startE, endF, endL, R.bind_ok, R.bind_exc, R.bind_stuck, gSeq, gIf, gSet, gOwn, gRet, gRetL, gRetO, gDrop, gTgt, gT, gsC, gsN, gN, gFor, gApp, gExt, gFrz, gNil, gExc, eVar, eC, e1, e2, eA, aNil, aCons, eTup, eLst, eCall, lCall, listR, eChain, tV, tAndD, tOrD, tNotD, eAnd, eOr, eNot, eIf, eL, lDisp, lList, lRep, oNone, oSome, eSl, iSeq, iRng1, iRng2, iZipD, iEnumD, iRevD, lListRange, lLc, eSorted, eSortSet, eLenSet, eBor, tBor, tYesD, noE, toB, dCmp, dSub, dNeg, dInt, dLen, dIs, dIsNot, List.map_cons, List.map_nil, List.length_cons, List.length_nil, Nat.reduceAdd, Nat.reduceSub, Nat.reduceLeDiff, List.replicate, List.cons_append, List.nil_append, List.append_nil, List.getElem?_cons_zero, List.getElem?_cons_succ, List.set_cons_zero, List.set_cons_succ, if_true, if_false, reduceIte, Bool.not_true, Bool.not_false, Bool.false_eq_true, reduceCtorEq, goodCases]
/-! ### typed cases -/
def encC (c : List Int) : D := .tuple (c.map PyData.int)
def CaseOk (m : Nat) (c : List Int) : Prop := c.length = m ∧ ∀ z ∈ c, -1 ≤ z ∧ z ≤ 1
theorem encC_inj {a b : List Int} (h : encC a = encC b) : a = b := map_int_inj.mp (PyData.tuple.inj h)
theorem encC_sh (c : List Int) : sh 1 (encC c) := sh_tuple (sh_ints _)
theorem encC_exact (c : List Int) : exact (encC c) = true := by simpa [encC, exact] using exact_ints c
theorem encC_eqv (a b : List Int) : PyData.eqv (encC a) (encC b) = decide (a = b) := by
  rw [Bool.eq_iff_iff, eqv_exact _ _ (encC_exact a) (encC_exact b), decide_eq_true_eq]
  exact ⟨encC_inj, fun h => by rw [h]⟩
theorem encC_ask (c : List Int) (h : c.length ≤ 100000) : askD (encC c) := ⟨by simp [encC, tyD], fun xs e => by
  cases e
  exact ⟨fun x hx => by obtain ⟨i, _, rfl⟩ := List.mem_map.mp hx; simp [tyD], by rw [List.length_map]; exact h⟩⟩
theorem isCaseB_enc {m : Nat} {c : List Int} (h : CaseOk m c) : isCaseB m (encC c) = true := by
  simp only [isCaseB, encC, List.length_map, h.1, decide_true, Bool.true_and, List.all_map, List.all_eq_true, Function.comp_def, amongB, Bool.and_eq_true, decide_eq_true_eq]
  exact h.2
theorem any_enc (cs : List (List Int)) (c : List Int) : ((cs.map encC).any fun z => PyData.eqv z (encC c)) = decide (c ∈ cs) := by
  rw [List.any_map, Bool.eq_iff_iff, decide_eq_true_eq, List.any_eq_true]
  constructor
  · rintro ⟨x, hx, e⟩
    simp only [Function.comp_def, encC_eqv, decide_eq_true_eq] at e
    exact e ▸ hx
  · intro h
    exact ⟨c, h, by simp only [Function.comp_def, encC_eqv, decide_true]⟩
theorem goodFrom_enc (m : Nat) : ∀ (suf pre : List (List Int)), (∀ c ∈ suf, CaseOk m c) → (pre ++ suf).Nodup → goodFrom m (pre.map encC) (suf.map encC) = true
  | [], _, _, _ => rfl
  | c :: suf, pre, hc, hn => by
    have h1 : c ∉ pre := fun hp => (List.nodup_append.mp hn).2.2 c hp c (List.mem_cons_self ..) rfl
    rw [List.map_cons, goodFrom, isCaseB_enc (hc c (List.mem_cons_self ..)), any_enc, decide_eq_false h1]
    have e : pre.map encC ++ [encC c] = (pre ++ [c]).map encC := by rw [List.map_append]; rfl
    rw [e, goodFrom_enc m suf (pre ++ [c]) (fun d hd => hc d (List.mem_cons_of_mem _ hd)) (by simpa using hn)]
    rfl
/-- such cases -/
structure CasesOk (m : Nat) (cs : List (List Int)) : Prop where
  ok : ∀ c ∈ cs, CaseOk m c
  nd : cs.Nodup
  pos : 1 ≤ cs.length
  le : cs.length ≤ 12
theorem goodCases_enc {m : Nat} {cs : List (List Int)} (h : CasesOk m cs) : goodCases m (.list (cs.map encC)) = true := by
  have h1 : (1 ≤ cs.length ∧ cs.length ≤ 12) := ⟨h.pos, h.le⟩
  simp only [goodCases, List.length_map, decide_eq_true h1, Bool.true_and]
  exact goodFrom_enc m cs [] h.ok (by simpa using h.nd)
theorem F_need_cases_ok {m : Nat} {cs : List (List Int)} (hm : 2 ≤ m ∧ m ≤ 5) (h : CasesOk m cs) : F_need_cases [.int m, .list (cs.map encC)] = .ok .none := by
  rw [F_need_cases_eq m _ (by simp only [amongB, Bool.and_eq_true, decide_eq_true_eq]; omega) (by simp [tyD]) fun xs e _ x hx => ?_, if_pos (goodCases_enc h)]
  cases e
  obtain ⟨c, hc, rfl⟩ := List.mem_map.mp hx
  exact encC_ask c (by rw [(h.ok c hc).1]; omega)
end W

set_option Elab.async false
set_option linter.all false
set_option maxRecDepth 100000
set_option maxHeartbeats 1000000
namespace W
open PySem PL
def scriptD (ns : List Int) : D := .dict [(.none, .list (ns.map PyData.int))]
def cellI (ns : List Int) (k : Int) : Int := if k < ns.length then ns.getD k.toNat 0 else 0
def mixI (ns : List Int) (k : Int) : Int := (cellI ns k + 7919 * k + 13) * 48271 % 2147483647 / 3
theorem cell_eq (ns : List Int) (k : Int) (h : 0 ≤ k) : F__law_cell_at [scriptD ns, .int k] = .ok (.int (cellI ns k)) := by
  unfold F__law_cell_at g__law_cell_at scriptD cellI
  by_cases hk : k < ns.length
  · have hl : k.toNat < ns.length := by omega
    simp only [dIx_pick, dMod, dDiv, dList, dTuple, dRev, dSl, Int.reduceLT, Int.reduceLE, Int.reduceEq, Int.reduceSub, Int.reduceAdd, and_self, true_and, and_true, and_false, false_and, Int.cast_ofNat_Int, decide_true, decide_false, Bool.true_and, Bool.false_and, Bool.and_true, Bool.and_false, dIx_t0, dIx_t1, dIx_l0, dIx_l1, toItems, itemsOf, runF, runL, startE, endF, endL, R.bind_ok, R.bind_exc, R.bind_stuck, gSeq, gIf, gSet, gOwn, gRet, gRetL, gRetO, gDrop, gTgt, gT, gsC, gsN, gN, gFor, gApp, gExt, gFrz, gNil, gExc, eVar, eC, e1, e2, eA, aNil, aCons, eTup, eLst, eCall, lCall, listR, eChain, tV, tAndD, tOrD, tNotD, eAnd, eOr, eNot, eIf, eL, lDisp, lList, lRep, oNone, oSome, eSl, iSeq, iRng1, iRng2, iZipD, iEnumD, iRevD, lListRange, lLc, eSorted, eSortSet, eLenSet, eBor, tBor, tYesD, noE, toB, dCmp, dSub, dNeg, dInt, dLen, dIs, dIsNot, List.map_cons, List.map_nil, List.length_cons, List.length_nil, Nat.reduceAdd, Nat.reduceSub, Nat.reduceLeDiff, List.replicate, List.cons_append, List.nil_append, List.append_nil, List.getElem?_cons_zero, List.getElem?_cons_succ, List.set_cons_zero, List.set_cons_succ, if_true, if_false, reduceIte, Bool.not_true, Bool.not_false, Bool.false_eq_true, reduceCtorEq, List.length_map, decide_eq_true hk, if_pos hk]
    rw [dIx_scr h (y := .int (ns.getD k.toNat 0)) (by rw [List.getElem?_map, List.getElem?_eq_getElem hl, List.getD_eq_getElem?_getD, List.getElem?_eq_getElem hl]; rfl)]
    simp only [dIx_pick, dMod, dDiv, dList, dTuple, dRev, dSl, Int.reduceLT, Int.reduceLE, Int.reduceEq, Int.reduceSub, Int.reduceAdd, and_self, true_and, and_true, and_false, false_and, Int.cast_ofNat_Int, decide_true, decide_false, Bool.true_and, Bool.false_and, Bool.and_true, Bool.and_false, dIx_t0, dIx_t1, dIx_l0, dIx_l1, toItems, itemsOf, runF, runL, startE, endF, endL, R.bind_ok, R.bind_exc, R.bind_stuck, gSeq, gIf, gSet, gOwn, gRet, gRetL, gRetO, gDrop, gTgt, gT, gsC, gsN, gN, gFor, gApp, gExt, gFrz, gNil, gExc, eVar, eC, e1, e2, eA, aNil, aCons, eTup, eLst, eCall, lCall, listR, eChain, tV, tAndD, tOrD, tNotD, eAnd, eOr, eNot, eIf, eL, lDisp, lList, lRep, oNone, oSome, eSl, iSeq, iRng1, iRng2, iZipD, iEnumD, iRevD, lListRange, lLc, eSorted, eSortSet, eLenSet, eBor, tBor, tYesD, noE, toB, dCmp, dSub, dNeg, dInt, dLen, dIs, dIsNot, List.map_cons, List.map_nil, List.length_cons, List.length_nil, Nat.reduceAdd, Nat.reduceSub, Nat.reduceLeDiff, List.replicate, List.cons_append, List.nil_append, List.append_nil, List.getElem?_cons_zero, List.getElem?_cons_succ, List.set_cons_zero, List.set_cons_succ, if_true, if_false, reduceIte, Bool.not_true, Bool.not_false, Bool.false_eq_true, reduceCtorEq]
  · simp only [dIx_pick, dMod, dDiv, dList, dTuple, dRev, dSl, Int.reduceLT, Int.reduceLE, Int.reduceEq, Int.reduceSub, Int.reduceAdd, and_self, true_and, and_true, and_false, false_and, Int.cast_ofNat_Int, decide_true, decide_false, Bool.true_and, Bool.false_and, Bool.and_true, Bool.and_false, dIx_t0, dIx_t1, dIx_l0, dIx_l1, toItems, itemsOf, runF, runL, startE, endF, endL, R.bind_ok, R.bind_exc, R.bind_stuck, gSeq, gIf, gSet, gOwn, gRet, gRetL, gRetO, gDrop, gTgt, gT, gsC, gsN, gN, gFor, gApp, gExt, gFrz, gNil, gExc, eVar, eC, e1, e2, eA, aNil, aCons, eTup, eLst, eCall, lCall, listR, eChain, tV, tAndD, tOrD, tNotD, eAnd, eOr, eNot, eIf, eL, lDisp, lList, lRep, oNone, oSome, eSl, iSeq, iRng1, iRng2, iZipD, iEnumD, iRevD, lListRange, lLc, eSorted, eSortSet, eLenSet, eBor, tBor, tYesD, noE, toB, dCmp, dSub, dNeg, dInt, dLen, dIs, dIsNot, List.map_cons, List.map_nil, List.length_cons, List.length_nil, Nat.reduceAdd, Nat.reduceSub, Nat.reduceLeDiff, List.replicate, List.cons_append, List.nil_append, List.append_nil, List.getElem?_cons_zero, List.getElem?_cons_succ, List.set_cons_zero, List.set_cons_succ, if_true, if_false, reduceIte, Bool.not_true, Bool.not_false, Bool.false_eq_true, reduceCtorEq, List.length_map, decide_eq_false hk, if_neg hk]
theorem mixed_eq (ns : List Int) (k : Int) (h : 0 ≤ k) : F__law_mixed [scriptD ns, .int k] = .ok (.int (mixI ns k)) := by
  have q1 : small64 7919 = true := by decide
  have q2 : small64 48271 = true := by decide
  unfold F__law_mixed g__law_mixed mixI
  simp only [dIx_pick, dMod, dDiv, dList, dTuple, dRev, dSl, Int.reduceLT, Int.reduceLE, Int.reduceEq, Int.reduceSub, Int.reduceAdd, and_self, true_and, and_true, and_false, false_and, Int.cast_ofNat_Int, decide_true, decide_false, Bool.true_and, Bool.false_and, Bool.and_true, Bool.and_false, dIx_t0, dIx_t1, dIx_l0, dIx_l1, toItems, itemsOf, runF, runL, startE, endF, endL, R.bind_ok, R.bind_exc, R.bind_stuck, gSeq, gIf, gSet, gOwn, gRet, gRetL, gRetO, gDrop, gTgt, gT, gsC, gsN, gN, gFor, gApp, gExt, gFrz, gNil, gExc, eVar, eC, e1, e2, eA, aNil, aCons, eTup, eLst, eCall, lCall, listR, eChain, tV, tAndD, tOrD, tNotD, eAnd, eOr, eNot, eIf, eL, lDisp, lList, lRep, oNone, oSome, eSl, iSeq, iRng1, iRng2, iZipD, iEnumD, iRevD, lListRange, lLc, eSorted, eSortSet, eLenSet, eBor, tBor, tYesD, noE, toB, dCmp, dSub, dNeg, dInt, dLen, dIs, dIsNot, List.map_cons, List.map_nil, List.length_cons, List.length_nil, Nat.reduceAdd, Nat.reduceSub, Nat.reduceLeDiff, List.replicate, List.cons_append, List.nil_append, List.append_nil, List.getElem?_cons_zero, List.getElem?_cons_succ, List.set_cons_zero, List.set_cons_succ, if_true, if_false, reduceIte, Bool.not_true, Bool.not_false, Bool.false_eq_true, reduceCtorEq, cell_eq ns k h, dMul, dAdd, q1, q2, Bool.true_or, Bool.or_true]
theorem mixI_nonneg (ns : List Int) (k : Int) : 0 ≤ mixI ns k := by
  unfold mixI
  omega
theorem mixI_lt (ns : List Int) (k : Int) : mixI ns k < 715827883 := by
  unfold mixI
  omega
theorem rd2 : rangeD 0 2 = [.int 0, .int 1] := rfl
theorem rd3 : rangeD 0 3 = [.int 0, .int 1, .int 2] := rfl
theorem rd4 : rangeD 0 4 = [.int 0, .int 1, .int 2, .int 3] := rfl
theorem rd5 : rangeD 0 5 = [.int 0, .int 1, .int 2, .int 3, .int 4] := rfl
theorem w0 : dIx (.list [.int 1, .int 3, .int 9, .int 27, .int 81]) (.int 0) = .ok (.int 1) := rfl
theorem w1 : dIx (.list [.int 1, .int 3, .int 9, .int 27, .int 81]) (.int 1) = .ok (.int 3) := rfl
theorem w2 : dIx (.list [.int 1, .int 3, .int 9, .int 27, .int 81]) (.int 2) = .ok (.int 9) := rfl
theorem w3 : dIx (.list [.int 1, .int 3, .int 9, .int 27, .int 81]) (.int 3) = .ok (.int 27) := rfl
theorem w4 : dIx (.list [.int 1, .int 3, .int 9, .int 27, .int 81]) (.int 4) = .ok (.int 81) := rfl
/-- how many things -/
def Many (m : Nat) : Prop := m = 2 ∨ m = 3 ∨ m = 4 ∨ m = 5
/-- the case that a number draws -/
def drawnI (m : Nat) (n : Int) : List Int := ([1, 3, 9, 27, 81].take m).map fun d => n / d % 3 - 1
theorem drawn_ok {m : Nat} (hm : Many m) (n : Int) : CaseOk m (drawnI m n) := by
  refine ⟨by rcases hm with rfl | rfl | rfl | rfl <;> rfl, fun z hz => ?_⟩
  obtain ⟨d, _, rfl⟩ := List.mem_map.mp hz
  omega
theorem c_puz {m : Nat} (hm : Many m) (n : Int) (s0 s1 s2 s3 s5 s6 s7 s9 s10 : PL.Slot noObj) :
    c__law_puzzle_1 [s0, s1, s2, s3, .val (.int m), s5, s6, s7, .val (.int n), s9, s10, .no] = .ok ((drawnI m n).map PyData.int) := by
  unfold c__law_puzzle_1 drawnI
  rcases hm with rfl | rfl | rfl | rfl
  all_goals
    simp only [dIx_pick, dMod, dDiv, dList, dTuple, dRev, dSl, Int.reduceLT, Int.reduceLE, Int.reduceEq, Int.reduceSub, Int.reduceAdd, and_self, true_and, and_true, and_false, false_and, Int.cast_ofNat_Int, decide_true, decide_false, Bool.true_and, Bool.false_and, Bool.and_true, Bool.and_false, dIx_t0, dIx_t1, dIx_l0, dIx_l1, toItems, itemsOf, runF, runL, startE, endF, endL, R.bind_ok, R.bind_exc, R.bind_stuck, gSeq, gIf, gSet, gOwn, gRet, gRetL, gRetO, gDrop, gTgt, gT, gsC, gsN, gN, gFor, gApp, gExt, gFrz, gNil, gExc, eVar, eC, e1, e2, eA, aNil, aCons, eTup, eLst, eCall, lCall, listR, eChain, tV, tAndD, tOrD, tNotD, eAnd, eOr, eNot, eIf, eL, lDisp, lList, lRep, oNone, oSome, eSl, iSeq, iRng1, iRng2, iZipD, iEnumD, iRevD, lListRange, lLc, eSorted, eSortSet, eLenSet, eBor, tBor, tYesD, noE, toB, dCmp, dSub, dNeg, dInt, dLen, dIs, dIsNot, List.map_cons, List.map_nil, List.length_cons, List.length_nil, Nat.reduceAdd, Nat.reduceSub, Nat.reduceLeDiff, List.replicate, List.cons_append, List.nil_append, List.append_nil, List.getElem?_cons_zero, List.getElem?_cons_succ, List.set_cons_zero, List.set_cons_succ, if_true, if_false, reduceIte, Bool.not_true, Bool.not_false, Bool.false_eq_true, reduceCtorEq, rd2, rd3, rd4, rd5, w0, w1, w2, w3, w4, eachR, lcStep, wipeE, Int.reduceNeg, List.all_cons, List.all_nil, plainAt, List.take]
/-! ### the drawn pool -/
theorem puz_step1 (ns : List Int) (at_ : Int) (h0 : 0 ≤ at_) {m : Nat} (hm : Many m) (cs : List (List Int)) (hl : (cs.map encC).length < 100000) (k : Int) (hk : 0 ≤ k) (s2 s3 s5 s8 s9 s10 : PL.Slot noObj) :
    g__law_puzzle_L1 [.val (scriptD ns), .val (.int at_), s2, s3, .val (.int m), s5, .own (cs.map encC), .val (.int k), s8, s9, s10, .no] =
      .ok (.nx, [.val (scriptD ns), .val (.int at_), s2, s3, .val (.int m), s5, .own ((cs ++ [drawnI m (mixI ns (at_ + 1 + k))]).map encC), .val (.int k), .val (.int (mixI ns (at_ + 1 + k))), s9, s10, .no]) := by
  unfold g__law_puzzle_L1
  simp only [dIx_pick, dMod, dDiv, dList, dTuple, dRev, dSl, Int.reduceLT, Int.reduceLE, Int.reduceEq, Int.reduceSub, Int.reduceAdd, and_self, true_and, and_true, and_false, false_and, Int.cast_ofNat_Int, decide_true, decide_false, Bool.true_and, Bool.false_and, Bool.and_true, Bool.and_false, dIx_t0, dIx_t1, dIx_l0, dIx_l1, toItems, itemsOf, runF, runL, startE, endF, endL, R.bind_ok, R.bind_exc, R.bind_stuck, gSeq, gIf, gSet, gOwn, gRet, gRetL, gRetO, gDrop, gTgt, gT, gsC, gsN, gN, gFor, gApp, gExt, gFrz, gNil, gExc, eVar, eC, e1, e2, eA, aNil, aCons, eTup, eLst, eCall, lCall, listR, eChain, tV, tAndD, tOrD, tNotD, eAnd, eOr, eNot, eIf, eL, lDisp, lList, lRep, oNone, oSome, eSl, iSeq, iRng1, iRng2, iZipD, iEnumD, iRevD, lListRange, lLc, eSorted, eSortSet, eLenSet, eBor, tBor, tYesD, noE, toB, dCmp, dSub, dNeg, dInt, dLen, dIs, dIsNot, List.map_cons, List.map_nil, List.length_cons, List.length_nil, Nat.reduceAdd, Nat.reduceSub, Nat.reduceLeDiff, List.replicate, List.cons_append, List.nil_append, List.append_nil, List.getElem?_cons_zero, List.getElem?_cons_succ, List.set_cons_zero, List.set_cons_succ, if_true, if_false, reduceIte, Bool.not_true, Bool.not_false, Bool.false_eq_true, reduceCtorEq, dAdd, mixed_eq ns (at_ + 1 + k) (by omega), c_puz hm, List.map_append, hl]
  rfl
theorem puz_loop1 (ns : List Int) (at_ : Int) (h0 : 0 ≤ at_) {m : Nat} (hm : Many m) : ∀ (ks : List Int) (cs : List (List Int)) (s2 s3 s5 s7 s8 s9 s10 : PL.Slot noObj), (∀ k ∈ ks, 0 ≤ k) → (∀ c ∈ cs, CaseOk m c) → cs.length + ks.length < 1000 →
    ∃ (cs' : List (List Int)) (s7' s8' : PL.Slot noObj), loopF (gN 7) g__law_puzzle_L1 (ks.map PyData.int) [.val (scriptD ns), .val (.int at_), s2, s3, .val (.int m), s5, .own (cs.map encC), s7, s8, s9, s10, .no] =
      .ok (.nx, [.val (scriptD ns), .val (.int at_), s2, s3, .val (.int m), s5, .own (cs'.map encC), s7', s8', s9, s10, .no]) ∧ (∀ c ∈ cs', CaseOk m c) ∧ cs'.length = cs.length + ks.length
  | [], cs, s2, s3, s5, s7, s8, s9, s10, _, hc, _ => ⟨cs, s7, s8, by simp only [dIx_pick, dMod, dDiv, dList, dTuple, dRev, dSl, Int.reduceLT, Int.reduceLE, Int.reduceEq, Int.reduceSub, Int.reduceAdd, and_self, true_and, and_true, and_false, false_and, Int.cast_ofNat_Int, decide_true, decide_false, Bool.true_and, Bool.false_and, Bool.and_true, Bool.and_false, dIx_t0, dIx_t1, dIx_l0, dIx_l1, toItems, itemsOf, runF, runL, startE, endF, endL, R.bind_ok, R.bind_exc, R.bind_stuck, gSeq, gIf, gSet, gOwn, gRet, gRetL, gRetO, gDrop, gTgt, gT, gsC, gsN, gN, gFor, gApp, gExt, gFrz, gNil, gExc, eVar, eC, e1, e2, eA, aNil, aCons, eTup, eLst, eCall, lCall, listR, eChain, tV, tAndD, tOrD, tNotD, eAnd, eOr, eNot, eIf, eL, lDisp, lList, lRep, oNone, oSome, eSl, iSeq, iRng1, iRng2, iZipD, iEnumD, iRevD, lListRange, lLc, eSorted, eSortSet, eLenSet, eBor, tBor, tYesD, noE, toB, dCmp, dSub, dNeg, dInt, dLen, dIs, dIsNot, List.map_cons, List.map_nil, List.length_cons, List.length_nil, Nat.reduceAdd, Nat.reduceSub, Nat.reduceLeDiff, List.replicate, List.cons_append, List.nil_append, List.append_nil, List.getElem?_cons_zero, List.getElem?_cons_succ, List.set_cons_zero, List.set_cons_succ, if_true, if_false, reduceIte, Bool.not_true, Bool.not_false, Bool.false_eq_true, reduceCtorEq, loopF], hc, rfl⟩
  | k :: ks, cs, s2, s3, s5, s7, s8, s9, s10, hk, hc, hl => by
    obtain ⟨cs', a, b, e, h1, h2⟩ := puz_loop1 ns at_ h0 hm ks (cs ++ [drawnI m (mixI ns (at_ + 1 + k))]) s2 s3 s5 (.val (.int k)) (.val (.int (mixI ns (at_ + 1 + k)))) s9 s10 (fun j hj => hk j (List.mem_cons_of_mem _ hj)) (fun c h => by
      rcases List.mem_append.mp h with h | h
      · exact hc c h
      · rw [List.mem_singleton] at h; subst h; exact drawn_ok hm _) (by rw [List.length_append]; simp only [List.length_cons, List.length_nil] at hl ⊢; omega)
    refine ⟨cs', a, b, ?_, h1, by rw [h2, List.length_append, List.length_cons, List.length_cons, List.length_nil]; omega⟩
    simp only [dIx_t0, dIx_t1, dIx_l0, dIx_l1, toItems, itemsOf, runF, runL, startE, endF, endL, R.bind_ok, R.bind_exc, R.bind_stuck, gSeq, gIf, gSet, gOwn, gRet, gRetL, gRetO, gDrop, gTgt, gT, gsC, gsN, gN, gFor, gApp, gExt, gFrz, gNil, gExc, eVar, eC, e1, e2, eA, aNil, aCons, eTup, eLst, eCall, lCall, listR, eChain, tV, tAndD, tOrD, tNotD, eAnd, eOr, eNot, eIf, eL, lDisp, lList, lRep, oNone, oSome, eSl, iSeq, iRng1, iRng2, iZipD, iEnumD, iRevD, lListRange, lLc, eSorted, eSortSet, eLenSet, eBor, tBor, tYesD, noE, toB, dCmp, dSub, dNeg, dInt, dLen, dIs, dIsNot, List.map_cons, List.map_nil, List.length_cons, List.length_nil, Nat.reduceAdd, Nat.reduceSub, Nat.reduceLeDiff, List.replicate, List.cons_append, List.nil_append, List.append_nil, List.getElem?_cons_zero, List.getElem?_cons_succ, List.set_cons_zero, List.set_cons_succ, if_true, if_false, reduceIte, Bool.not_true, Bool.not_false, Bool.false_eq_true, reduceCtorEq, loopF, puz_step1 ns at_ h0 hm cs (by rw [List.length_map]; omega) k (hk k (List.mem_cons_self ..)), e]
/-! ### the pools of one kind -/
def decC : D → Option (List Int)
  | .tuple xs => intsOf xs
  | _ => none
def poolB (m : Nat) (xs : List D) : Bool := !xs.isEmpty && decide (xs.length ≤ 60) && xs.all fun x => match decC x with
  | some c => decide (c.length = m) && c.all fun z => decide (-1 ≤ z) && decide (z ≤ 1)
  | none => false
theorem decC_eq {x : D} {c : List Int} (h : decC x = some c) : x = encC c := by
  unfold decC at h
  split at h
  · rw [intsOf_eq h]; rfl
  · cases h
theorem poolB_enc {m : Nat} : ∀ {xs : List D}, (xs.all fun x => match decC x with
  | some c => decide (c.length = m) && c.all fun z => decide (-1 ≤ z) && decide (z ≤ 1)
  | none => false) = true → ∃ cs : List (List Int), xs = cs.map encC ∧ ∀ c ∈ cs, CaseOk m c
  | [], _ => ⟨[], rfl, by simp⟩
  | x :: xs, h => by
    rw [List.all_cons, Bool.and_eq_true] at h
    obtain ⟨cs, rfl, h2⟩ := poolB_enc h.2
    have h1 := h.1
    split at h1
    · rename_i c hc
      rw [decC_eq hc]
      simp only [Bool.and_eq_true, decide_eq_true_eq, List.all_eq_true] at h1
      exact ⟨c :: cs, rfl, fun d hd => (List.mem_cons.mp hd).elim (fun e => by subst e; exact ⟨h1.1, h1.2⟩) (h2 d)⟩
    · cases h1
def poolK (m kind : Nat) : Bool := match F__law_pool [.int m, .int kind] with
  | .ok xs => poolB m xs
  | _ => false
set_option maxHeartbeats 0 in
theorem pool_all : ([2, 3, 4, 5].all fun m => [0, 1, 2, 3, 4].all fun k => poolK m k) = true := by kernel_rfl
theorem pool_ok {m : Nat} (hm : Many m) (kind : Nat) (hk : kind < 5) : ∃ cs : List (List Int), F__law_pool [.int m, .int kind] = .ok (cs.map encC) ∧ (∀ c ∈ cs, CaseOk m c) ∧ cs ≠ [] ∧ cs.length ≤ 60 := by
  have h1 := List.all_eq_true.mp pool_all m (by rcases hm with rfl | rfl | rfl | rfl <;> simp)
  have h2 := List.all_eq_true.mp h1 kind (by simp; omega)
  unfold poolK at h2
  split at h2
  · rename_i xs hx
    unfold poolB at h2
    simp only [Bool.and_eq_true, Bool.not_eq_true', decide_eq_true_eq] at h2
    obtain ⟨cs, rfl, h3⟩ := poolB_enc h2.2
    refine ⟨cs, hx, h3, fun e => by subst e; simp at h2, by simpa using h2.1.2⟩
  · cases h2
end W

set_option Elab.async false
set_option linter.all false
set_option maxRecDepth 100000
set_option maxHeartbeats 1000000
namespace W
open PySem PL
theorem puz_step2 (ps cs : List (List Int)) (hp : ps ≠ []) (hpl : ps.length ≤ 60) (hcl : (cs.map encC).length < 100000) (k n : Int) (s0 s1 s2 s3 s4 s5 s10 : PL.Slot noObj) :
    ∃ c ∈ ps, g__law_puzzle_L2 [s0, s1, s2, s3, s4, s5, .val (.list (ps.map encC)), .val (.int k), .val (.int n), .own (cs.map encC), s10, .no] =
      .ok (.nx, [s0, s1, s2, s3, s4, s5, .val (.list (ps.map encC)), .val (.int k), .val (.int n), .own ((if c ∈ cs then cs else cs ++ [c]).map encC), .val (encC c), .no]) := by
  have q0 : (0 : Int) < (ps.length : Nat) := by
    cases ps with
    | nil => exact absurd rfl hp
    | cons a r => rw [List.length_cons]; omega
  have q1 : ((ps.map encC).length : Int) = (ps.length : Nat) := by rw [List.length_map]
  have q2 : small64 (1 + n / 64 % 2) = true := by
    unfold small64
    simp only [Bool.and_eq_true, decide_eq_true_eq]
    omega
  obtain ⟨c, hc, e⟩ := List.mem_map.mp (pick_mem (c := n / 8 + k * (1 + n / 64 % 2)) q1 q0)
  refine ⟨c, hc, ?_⟩
  have q3 : (SeqAt.shaped (encC c) && SeqAt.shaped (.list (cs.map encC))) = true := by
    rw [shaped_sh (encC_sh c), shaped_sh (sh_list (n := 1) fun x hx => ?_)]
    · rfl
    · obtain ⟨d, _, rfl⟩ := List.mem_map.mp hx
      exact encC_sh d
  have q4 : dNotIn (encC c) (.list (cs.map encC)) = .ok (.bool !decide (c ∈ cs)) := by
    unfold dNotIn
    simp only [q3, if_true, any_enc]
  unfold g__law_puzzle_L2
  simp only [dIx_pick, dMod, dDiv, dList, dTuple, dRev, dSl, Int.reduceLT, Int.reduceLE, Int.reduceEq, Int.reduceSub, Int.reduceAdd, and_self, true_and, and_true, and_false, false_and, Int.cast_ofNat_Int, decide_true, decide_false, Bool.true_and, Bool.false_and, Bool.and_true, Bool.and_false, dIx_t0, dIx_t1, dIx_l0, dIx_l1, toItems, itemsOf, runF, runL, startE, endF, endL, R.bind_ok, R.bind_exc, R.bind_stuck, gSeq, gIf, gSet, gOwn, gRet, gRetL, gRetO, gDrop, gTgt, gT, gsC, gsN, gN, gFor, gApp, gExt, gFrz, gNil, gExc, eVar, eC, e1, e2, eA, aNil, aCons, eTup, eLst, eCall, lCall, listR, eChain, tV, tAndD, tOrD, tNotD, eAnd, eOr, eNot, eIf, eL, lDisp, lList, lRep, oNone, oSome, eSl, iSeq, iRng1, iRng2, iZipD, iEnumD, iRevD, lListRange, lLc, eSorted, eSortSet, eLenSet, eBor, tBor, tYesD, noE, toB, dCmp, dSub, dNeg, dInt, dLen, dIs, dIsNot, List.map_cons, List.map_nil, List.length_cons, List.length_nil, Nat.reduceAdd, Nat.reduceSub, Nat.reduceLeDiff, List.replicate, List.cons_append, List.nil_append, List.append_nil, List.getElem?_cons_zero, List.getElem?_cons_succ, List.set_cons_zero, List.set_cons_succ, if_true, if_false, reduceIte, Bool.not_true, Bool.not_false, Bool.false_eq_true, reduceCtorEq, dAdd, dMul, q0, q2, Bool.or_true, List.length_map]
  rw [← e]
  simp only [dIx_pick, dMod, dDiv, dList, dTuple, dRev, dSl, Int.reduceLT, Int.reduceLE, Int.reduceEq, Int.reduceSub, Int.reduceAdd, and_self, true_and, and_true, and_false, false_and, Int.cast_ofNat_Int, decide_true, decide_false, Bool.true_and, Bool.false_and, Bool.and_true, Bool.and_false, dIx_t0, dIx_t1, dIx_l0, dIx_l1, toItems, itemsOf, runF, runL, startE, endF, endL, R.bind_ok, R.bind_exc, R.bind_stuck, gSeq, gIf, gSet, gOwn, gRet, gRetL, gRetO, gDrop, gTgt, gT, gsC, gsN, gN, gFor, gApp, gExt, gFrz, gNil, gExc, eVar, eC, e1, e2, eA, aNil, aCons, eTup, eLst, eCall, lCall, listR, eChain, tV, tAndD, tOrD, tNotD, eAnd, eOr, eNot, eIf, eL, lDisp, lList, lRep, oNone, oSome, eSl, iSeq, iRng1, iRng2, iZipD, iEnumD, iRevD, lListRange, lLc, eSorted, eSortSet, eLenSet, eBor, tBor, tYesD, noE, toB, dCmp, dSub, dNeg, dInt, dLen, dIs, dIsNot, List.map_cons, List.map_nil, List.length_cons, List.length_nil, Nat.reduceAdd, Nat.reduceSub, Nat.reduceLeDiff, List.replicate, List.cons_append, List.nil_append, List.append_nil, List.getElem?_cons_zero, List.getElem?_cons_succ, List.set_cons_zero, List.set_cons_succ, if_true, if_false, reduceIte, Bool.not_true, Bool.not_false, Bool.false_eq_true, reduceCtorEq, noObjs_true, q4]
  by_cases h : c ∈ cs
  · simp only [dIx_pick, dMod, dDiv, dList, dTuple, dRev, dSl, Int.reduceLT, Int.reduceLE, Int.reduceEq, Int.reduceSub, Int.reduceAdd, and_self, true_and, and_true, and_false, false_and, Int.cast_ofNat_Int, decide_true, decide_false, Bool.true_and, Bool.false_and, Bool.and_true, Bool.and_false, dIx_t0, dIx_t1, dIx_l0, dIx_l1, toItems, itemsOf, runF, runL, startE, endF, endL, R.bind_ok, R.bind_exc, R.bind_stuck, gSeq, gIf, gSet, gOwn, gRet, gRetL, gRetO, gDrop, gTgt, gT, gsC, gsN, gN, gFor, gApp, gExt, gFrz, gNil, gExc, eVar, eC, e1, e2, eA, aNil, aCons, eTup, eLst, eCall, lCall, listR, eChain, tV, tAndD, tOrD, tNotD, eAnd, eOr, eNot, eIf, eL, lDisp, lList, lRep, oNone, oSome, eSl, iSeq, iRng1, iRng2, iZipD, iEnumD, iRevD, lListRange, lLc, eSorted, eSortSet, eLenSet, eBor, tBor, tYesD, noE, toB, dCmp, dSub, dNeg, dInt, dLen, dIs, dIsNot, List.map_cons, List.map_nil, List.length_cons, List.length_nil, Nat.reduceAdd, Nat.reduceSub, Nat.reduceLeDiff, List.replicate, List.cons_append, List.nil_append, List.append_nil, List.getElem?_cons_zero, List.getElem?_cons_succ, List.set_cons_zero, List.set_cons_succ, if_true, if_false, reduceIte, Bool.not_true, Bool.not_false, Bool.false_eq_true, reduceCtorEq, decide_eq_true h, if_pos h]
  · have hcl2 : cs.length < 100000 := by rw [List.length_map] at hcl; exact hcl
    simp only [dIx_pick, dMod, dDiv, dList, dTuple, dRev, dSl, Int.reduceLT, Int.reduceLE, Int.reduceEq, Int.reduceSub, Int.reduceAdd, and_self, true_and, and_true, and_false, false_and, Int.cast_ofNat_Int, decide_true, decide_false, Bool.true_and, Bool.false_and, Bool.and_true, Bool.and_false, dIx_t0, dIx_t1, dIx_l0, dIx_l1, toItems, itemsOf, runF, runL, startE, endF, endL, R.bind_ok, R.bind_exc, R.bind_stuck, gSeq, gIf, gSet, gOwn, gRet, gRetL, gRetO, gDrop, gTgt, gT, gsC, gsN, gN, gFor, gApp, gExt, gFrz, gNil, gExc, eVar, eC, e1, e2, eA, aNil, aCons, eTup, eLst, eCall, lCall, listR, eChain, tV, tAndD, tOrD, tNotD, eAnd, eOr, eNot, eIf, eL, lDisp, lList, lRep, oNone, oSome, eSl, iSeq, iRng1, iRng2, iZipD, iEnumD, iRevD, lListRange, lLc, eSorted, eSortSet, eLenSet, eBor, tBor, tYesD, noE, toB, dCmp, dSub, dNeg, dInt, dLen, dIs, dIsNot, List.map_cons, List.map_nil, List.length_cons, List.length_nil, Nat.reduceAdd, Nat.reduceSub, Nat.reduceLeDiff, List.replicate, List.cons_append, List.nil_append, List.append_nil, List.getElem?_cons_zero, List.getElem?_cons_succ, List.set_cons_zero, List.set_cons_succ, if_true, if_false, reduceIte, Bool.not_true, Bool.not_false, Bool.false_eq_true, reduceCtorEq, decide_eq_false h, if_neg h, hcl2, List.map_append]
theorem puz_loop2 {m : Nat} (ps : List (List Int)) (hp : ps ≠ []) (hpl : ps.length ≤ 60) (hps : ∀ c ∈ ps, CaseOk m c) (n : Int) (s0 s1 s2 s3 s4 s5 : PL.Slot noObj) : ∀ (ks : List Int) (cs : List (List Int)) (s7 s10 : PL.Slot noObj), (∀ c ∈ cs, CaseOk m c) → cs.Nodup → cs.length + ks.length < 1000 →
    ∃ (cs' : List (List Int)) (s7' s10' : PL.Slot noObj), loopF (gN 7) g__law_puzzle_L2 (ks.map PyData.int) [s0, s1, s2, s3, s4, s5, .val (.list (ps.map encC)), s7, .val (.int n), .own (cs.map encC), s10, .no] =
      .ok (.nx, [s0, s1, s2, s3, s4, s5, .val (.list (ps.map encC)), s7', .val (.int n), .own (cs'.map encC), s10', .no]) ∧ (∀ c ∈ cs', CaseOk m c) ∧ cs'.Nodup ∧ cs'.length ≤ cs.length + ks.length ∧ (1 ≤ cs.length + ks.length → 1 ≤ cs'.length)
  | [], cs, s7, s10, h1, h2, _ => ⟨cs, s7, s10, by simp only [dIx_pick, dMod, dDiv, dList, dTuple, dRev, dSl, Int.reduceLT, Int.reduceLE, Int.reduceEq, Int.reduceSub, Int.reduceAdd, and_self, true_and, and_true, and_false, false_and, Int.cast_ofNat_Int, decide_true, decide_false, Bool.true_and, Bool.false_and, Bool.and_true, Bool.and_false, dIx_t0, dIx_t1, dIx_l0, dIx_l1, toItems, itemsOf, runF, runL, startE, endF, endL, R.bind_ok, R.bind_exc, R.bind_stuck, gSeq, gIf, gSet, gOwn, gRet, gRetL, gRetO, gDrop, gTgt, gT, gsC, gsN, gN, gFor, gApp, gExt, gFrz, gNil, gExc, eVar, eC, e1, e2, eA, aNil, aCons, eTup, eLst, eCall, lCall, listR, eChain, tV, tAndD, tOrD, tNotD, eAnd, eOr, eNot, eIf, eL, lDisp, lList, lRep, oNone, oSome, eSl, iSeq, iRng1, iRng2, iZipD, iEnumD, iRevD, lListRange, lLc, eSorted, eSortSet, eLenSet, eBor, tBor, tYesD, noE, toB, dCmp, dSub, dNeg, dInt, dLen, dIs, dIsNot, List.map_cons, List.map_nil, List.length_cons, List.length_nil, Nat.reduceAdd, Nat.reduceSub, Nat.reduceLeDiff, List.replicate, List.cons_append, List.nil_append, List.append_nil, List.getElem?_cons_zero, List.getElem?_cons_succ, List.set_cons_zero, List.set_cons_succ, if_true, if_false, reduceIte, Bool.not_true, Bool.not_false, Bool.false_eq_true, reduceCtorEq, loopF], h1, h2, by simp, by simp⟩
  | k :: ks, cs, s7, s10, h1, h2, h3 => by
    rw [List.length_cons] at h3
    obtain ⟨c, hc, e⟩ := puz_step2 ps cs hp hpl (by rw [List.length_map]; omega) k n s0 s1 s2 s3 s4 s5 s10
    have g1 : ∀ d ∈ (if c ∈ cs then cs else cs ++ [c]), CaseOk m d := fun d hd => by
      split at hd
      · exact h1 d hd
      · rcases List.mem_append.mp hd with hd | hd
        · exact h1 d hd
        · rw [List.mem_singleton] at hd; subst hd; exact hps _ hc
    have g2 : (if c ∈ cs then cs else cs ++ [c]).Nodup := by
      split
      · exact h2
      · rename_i hn
        refine List.nodup_append.mpr ⟨h2, by simp, fun a ha b hb => ?_⟩
        rw [List.mem_singleton] at hb
        subst hb
        exact fun z => hn (z ▸ ha)
    have g3 : (if c ∈ cs then cs else cs ++ [c]).length ≤ cs.length + 1 := by split <;> simp
    have g4 : 1 ≤ (if c ∈ cs then cs else cs ++ [c]).length := by
      split
      · rename_i hm; exact List.length_pos_of_mem hm
      · simp
    obtain ⟨cs', a, b, e', k1, k2, k3, k4⟩ := puz_loop2 ps hp hpl hps n s0 s1 s2 s3 s4 s5 ks (if c ∈ cs then cs else cs ++ [c]) (.val (.int k)) (.val (encC c)) g1 g2 (by omega)
    refine ⟨cs', a, b, ?_, k1, k2, by rw [List.length_cons]; omega, fun _ => k4 (by omega)⟩
    simp only [dIx_t0, dIx_t1, dIx_l0, dIx_l1, toItems, itemsOf, runF, runL, startE, endF, endL, R.bind_ok, R.bind_exc, R.bind_stuck, gSeq, gIf, gSet, gOwn, gRet, gRetL, gRetO, gDrop, gTgt, gT, gsC, gsN, gN, gFor, gApp, gExt, gFrz, gNil, gExc, eVar, eC, e1, e2, eA, aNil, aCons, eTup, eLst, eCall, lCall, listR, eChain, tV, tAndD, tOrD, tNotD, eAnd, eOr, eNot, eIf, eL, lDisp, lList, lRep, oNone, oSome, eSl, iSeq, iRng1, iRng2, iZipD, iEnumD, iRevD, lListRange, lLc, eSorted, eSortSet, eLenSet, eBor, tBor, tYesD, noE, toB, dCmp, dSub, dNeg, dInt, dLen, dIs, dIsNot, List.map_cons, List.map_nil, List.length_cons, List.length_nil, Nat.reduceAdd, Nat.reduceSub, Nat.reduceLeDiff, List.replicate, List.cons_append, List.nil_append, List.append_nil, List.getElem?_cons_zero, List.getElem?_cons_succ, List.set_cons_zero, List.set_cons_succ, if_true, if_false, reduceIte, Bool.not_true, Bool.not_false, Bool.false_eq_true, reduceCtorEq, loopF, e, e']
theorem rd_ints (j : Int) (h : 0 ≤ j) : ∃ ks : List Int, rangeD 0 j = ks.map PyData.int ∧ (∀ k ∈ ks, 0 ≤ k) ∧ (ks.length : Int) = j := by
  refine ⟨(List.range j.toNat).map fun i : Nat => (i : Int), ?_, fun k hk => ?_, ?_⟩
  · unfold rangeD
    rw [List.map_map, Int.sub_zero]
    refine List.map_congr_left fun i _ => ?_
    simp
  · obtain ⟨i, _, rfl⟩ := List.mem_map.mp hk
    omega
  · rw [List.length_map, List.length_range]
    omega
theorem most_eq {m : Nat} (hm : Many m) : ∃ v : Int, dIx (.list [.int 9, .int 12, .int 8, .int 5]) (.int ((m : Int) - 2)) = .ok (.int v) ∧ 1 ≤ v ∧ v ≤ 12 := by
  rcases hm with rfl | rfl | rfl | rfl
  · exact ⟨9, rfl, by decide, by decide⟩
  · exact ⟨12, rfl, by decide, by decide⟩
  · exact ⟨8, rfl, by decide, by decide⟩
  · exact ⟨5, rfl, by decide, by decide⟩
theorem many_eq (g : Int) (hg : 2 ≤ g) (n : Int) : ∃ (m : Nat) (v : Int), pick [.int 2, .int 3, .int 3, .int 4, .int 4, .int 5] n 6 = .int v ∧ dMin [.int g, .int v] = .ok (.int m) ∧ Many m ∧ (m : Int) ≤ g := by
  have h := pick_mem (xs := [.int 2, .int 3, .int 3, .int 4, .int 4, .int 5]) (c := n) (k := 6) rfl (by decide)
  obtain ⟨v, hv, h2⟩ : ∃ v : Int, pick [.int 2, .int 3, .int 3, .int 4, .int 4, .int 5] n 6 = .int v ∧ 2 ≤ v ∧ v ≤ 5 := by
    simp only [List.mem_cons, List.not_mem_nil, or_false] at h
    rcases h with h | h | h | h | h | h <;> exact ⟨_, h, by decide, by decide⟩
  refine ⟨(if v < g then v else g).toNat, v, hv, ?_, ?_, ?_⟩
  · simp only [dMin]
    congr 2
    split <;> omega
  · unfold Many
    split <;> omega
  · split <;> omega
theorem noE_ok' {α : Type} (a : α) : noE (R.ok a) = .ok a := rfl
theorem puzzle_ok (ns : List Int) (at_ g : Int) (h0 : 0 ≤ at_) (hg : 2 ≤ g) : ∃ (m : Nat) (cs : List (List Int)), F__law_puzzle [scriptD ns, .int at_, .int g] = .ok (.tuple [.int m, .list (cs.map encC)]) ∧ Many m ∧ (m : Int) ≤ g ∧ CasesOk m cs := by
  obtain ⟨m, v, k2, k3, hm, hmg⟩ := many_eq g hg (mixI ns at_)
  obtain ⟨mo, k4, mo1, mo2⟩ := most_eq hm
  obtain ⟨ks, r1, r2, r3⟩ := rd_ints 12 (by decide)
  have nn := mixI_nonneg ns at_
  obtain ⟨c1, t7, t8, l1, hc1, lc1⟩ := puz_loop1 ns at_ h0 hm ks [] (.val (.int g)) (.val (.int (mixI ns at_))) (.val (.int mo)) .no .no .no .no r2 (by simp) (by simp only [List.length_nil]; omega)
  have q1 : dEq (.int (mixI ns at_ / 36 / 256 % 4)) (.int 1) = .ok (.bool (decide (mixI ns at_ / 36 / 256 % 4 = 1))) := dEq_int _ _
  -- the pool
  obtain ⟨ps, hps, hpn, hpl, epool⟩ : ∃ ps : List (List Int), (∀ c ∈ ps, CaseOk m c) ∧ ps ≠ [] ∧ ps.length ≤ 60 ∧
      ((gIf (tV (e2 dGt (e2 dMod (e2 dDiv (eVar 3) (eC (.int 6))) (eC (.int 6))) (eC (.int 0)))) (gSet 6 (eCall 2 (listR F__law_pool) (aCons (eVar 4) (aCons (e2 dSub (e2 dMod (e2 dDiv (eVar 3) (eC (.int 6))) (eC (.int 6))) (eC (.int 1))) aNil)))) gNil : GS noObj)
        [.val (scriptD ns), .val (.int at_), .val (.int g), .val (.int (mixI ns at_)), .val (.int m), .val (.int mo), .val (.list (c1.map encC)), t7, t8, .no, .no, .no] =
        .ok (.nx, [.val (scriptD ns), .val (.int at_), .val (.int g), .val (.int (mixI ns at_)), .val (.int m), .val (.int mo), .val (.list (ps.map encC)), t7, t8, .no, .no, .no])) := by
    by_cases hk : 0 < mixI ns at_ / 6 % 6
    · obtain ⟨ps, p1, p2, p3, p4⟩ := pool_ok hm (mixI ns at_ / 6 % 6 - 1).toNat (by omega)
      have p5 : F__law_pool [.int m, .int (mixI ns at_ / 6 % 6 - 1)] = .ok (ps.map encC) := by
        rw [← p1]
        congr 4
        omega
      exact ⟨ps, p2, p3, p4, by simp only [dIx_pick, dMod, dDiv, dList, dTuple, dRev, dSl, Int.reduceLT, Int.reduceLE, Int.reduceEq, Int.reduceSub, Int.reduceAdd, and_self, true_and, and_true, and_false, false_and, Int.cast_ofNat_Int, decide_true, decide_false, Bool.true_and, Bool.false_and, Bool.and_true, Bool.and_false, dIx_t0, dIx_t1, dIx_l0, dIx_l1, toItems, itemsOf, runF, runL, startE, endF, endL, R.bind_ok, R.bind_exc, R.bind_stuck, gSeq, gIf, gSet, gOwn, gRet, gRetL, gRetO, gDrop, gTgt, gT, gsC, gsN, gN, gFor, gApp, gExt, gFrz, gNil, gExc, eVar, eC, e1, e2, eA, aNil, aCons, eTup, eLst, eCall, lCall, listR, eChain, tV, tAndD, tOrD, tNotD, eAnd, eOr, eNot, eIf, eL, lDisp, lList, lRep, oNone, oSome, eSl, iSeq, iRng1, iRng2, iZipD, iEnumD, iRevD, lListRange, lLc, eSorted, eSortSet, eLenSet, eBor, tBor, tYesD, noE, toB, dCmp, dSub, dNeg, dInt, dLen, dIs, dIsNot, List.map_cons, List.map_nil, List.length_cons, List.length_nil, Nat.reduceAdd, Nat.reduceSub, Nat.reduceLeDiff, List.replicate, List.cons_append, List.nil_append, List.append_nil, List.getElem?_cons_zero, List.getElem?_cons_succ, List.set_cons_zero, List.set_cons_succ, if_true, if_false, reduceIte, Bool.not_true, Bool.not_false, Bool.false_eq_true, reduceCtorEq, decide_eq_true hk, p5]⟩
    · refine ⟨c1, hc1, fun e => ?_, by simp only [List.length_nil] at lc1; omega, by simp only [dIx_pick, dMod, dDiv, dList, dTuple, dRev, dSl, Int.reduceLT, Int.reduceLE, Int.reduceEq, Int.reduceSub, Int.reduceAdd, and_self, true_and, and_true, and_false, false_and, Int.cast_ofNat_Int, decide_true, decide_false, Bool.true_and, Bool.false_and, Bool.and_true, Bool.and_false, dIx_t0, dIx_t1, dIx_l0, dIx_l1, toItems, itemsOf, runF, runL, startE, endF, endL, R.bind_ok, R.bind_exc, R.bind_stuck, gSeq, gIf, gSet, gOwn, gRet, gRetL, gRetO, gDrop, gTgt, gT, gsC, gsN, gN, gFor, gApp, gExt, gFrz, gNil, gExc, eVar, eC, e1, e2, eA, aNil, aCons, eTup, eLst, eCall, lCall, listR, eChain, tV, tAndD, tOrD, tNotD, eAnd, eOr, eNot, eIf, eL, lDisp, lList, lRep, oNone, oSome, eSl, iSeq, iRng1, iRng2, iZipD, iEnumD, iRevD, lListRange, lLc, eSorted, eSortSet, eLenSet, eBor, tBor, tYesD, noE, toB, dCmp, dSub, dNeg, dInt, dLen, dIs, dIsNot, List.map_cons, List.map_nil, List.length_cons, List.length_nil, Nat.reduceAdd, Nat.reduceSub, Nat.reduceLeDiff, List.replicate, List.cons_append, List.nil_append, List.append_nil, List.getElem?_cons_zero, List.getElem?_cons_succ, List.set_cons_zero, List.set_cons_succ, if_true, if_false, reduceIte, Bool.not_true, Bool.not_false, Bool.false_eq_true, reduceCtorEq, decide_eq_false hk]⟩
      subst e
      simp only [List.length_nil] at lc1
      omega
  -- how many at most
  obtain ⟨mo', mo1', mo2', emost⟩ : ∃ mo' : Int, 1 ≤ mo' ∧ mo' ≤ 12 ∧ ((gIf (tAndD (tV (e2 dGt (eVar 4) (eC (.int 3)))) (tAndD (tV (e2 dEq (e2 dMod (e2 dDiv (eVar 8) (eC (.int 256))) (eC (.int 4))) (eC (.int 1)))) (tV (e2 dGt (e2 dMod (e2 dDiv (eVar 3) (eC (.int 6))) (eC (.int 6))) (eC (.int 0)))))) (gSet 5 (eC (.int 12))) gNil : GS noObj)
        [.val (scriptD ns), .val (.int at_), .val (.int g), .val (.int (mixI ns at_)), .val (.int m), .val (.int mo), .val (.list (ps.map encC)), t7, .val (.int (mixI ns at_ / 36)), .own [], .no, .no] =
        .ok (.nx, [.val (scriptD ns), .val (.int at_), .val (.int g), .val (.int (mixI ns at_)), .val (.int m), .val (.int mo'), .val (.list (ps.map encC)), t7, .val (.int (mixI ns at_ / 36)), .own [], .no, .no])) := by
    by_cases a1 : (3 : Int) < m
    · by_cases a2 : mixI ns at_ / 36 / 256 % 4 = 1
      · by_cases a3 : 0 < mixI ns at_ / 6 % 6
        · exact ⟨12, by decide, by decide, by simp only [dIx_pick, dMod, dDiv, dList, dTuple, dRev, dSl, Int.reduceLT, Int.reduceLE, Int.reduceEq, Int.reduceSub, Int.reduceAdd, and_self, true_and, and_true, and_false, false_and, Int.cast_ofNat_Int, decide_true, decide_false, Bool.true_and, Bool.false_and, Bool.and_true, Bool.and_false, dIx_t0, dIx_t1, dIx_l0, dIx_l1, toItems, itemsOf, runF, runL, startE, endF, endL, R.bind_ok, R.bind_exc, R.bind_stuck, gSeq, gIf, gSet, gOwn, gRet, gRetL, gRetO, gDrop, gTgt, gT, gsC, gsN, gN, gFor, gApp, gExt, gFrz, gNil, gExc, eVar, eC, e1, e2, eA, aNil, aCons, eTup, eLst, eCall, lCall, listR, eChain, tV, tAndD, tOrD, tNotD, eAnd, eOr, eNot, eIf, eL, lDisp, lList, lRep, oNone, oSome, eSl, iSeq, iRng1, iRng2, iZipD, iEnumD, iRevD, lListRange, lLc, eSorted, eSortSet, eLenSet, eBor, tBor, tYesD, noE, toB, dCmp, dSub, dNeg, dInt, dLen, dIs, dIsNot, List.map_cons, List.map_nil, List.length_cons, List.length_nil, Nat.reduceAdd, Nat.reduceSub, Nat.reduceLeDiff, List.replicate, List.cons_append, List.nil_append, List.append_nil, List.getElem?_cons_zero, List.getElem?_cons_succ, List.set_cons_zero, List.set_cons_succ, if_true, if_false, reduceIte, Bool.not_true, Bool.not_false, Bool.false_eq_true, reduceCtorEq, decide_eq_true a1, decide_eq_true a2, decide_eq_true a3, q1]⟩
        · exact ⟨mo, mo1, mo2, by simp only [dIx_pick, dMod, dDiv, dList, dTuple, dRev, dSl, Int.reduceLT, Int.reduceLE, Int.reduceEq, Int.reduceSub, Int.reduceAdd, and_self, true_and, and_true, and_false, false_and, Int.cast_ofNat_Int, decide_true, decide_false, Bool.true_and, Bool.false_and, Bool.and_true, Bool.and_false, dIx_t0, dIx_t1, dIx_l0, dIx_l1, toItems, itemsOf, runF, runL, startE, endF, endL, R.bind_ok, R.bind_exc, R.bind_stuck, gSeq, gIf, gSet, gOwn, gRet, gRetL, gRetO, gDrop, gTgt, gT, gsC, gsN, gN, gFor, gApp, gExt, gFrz, gNil, gExc, eVar, eC, e1, e2, eA, aNil, aCons, eTup, eLst, eCall, lCall, listR, eChain, tV, tAndD, tOrD, tNotD, eAnd, eOr, eNot, eIf, eL, lDisp, lList, lRep, oNone, oSome, eSl, iSeq, iRng1, iRng2, iZipD, iEnumD, iRevD, lListRange, lLc, eSorted, eSortSet, eLenSet, eBor, tBor, tYesD, noE, toB, dCmp, dSub, dNeg, dInt, dLen, dIs, dIsNot, List.map_cons, List.map_nil, List.length_cons, List.length_nil, Nat.reduceAdd, Nat.reduceSub, Nat.reduceLeDiff, List.replicate, List.cons_append, List.nil_append, List.append_nil, List.getElem?_cons_zero, List.getElem?_cons_succ, List.set_cons_zero, List.set_cons_succ, if_true, if_false, reduceIte, Bool.not_true, Bool.not_false, Bool.false_eq_true, reduceCtorEq, decide_eq_true a1, decide_eq_true a2, decide_eq_false a3, q1]⟩
      · exact ⟨mo, mo1, mo2, by simp only [dIx_pick, dMod, dDiv, dList, dTuple, dRev, dSl, Int.reduceLT, Int.reduceLE, Int.reduceEq, Int.reduceSub, Int.reduceAdd, and_self, true_and, and_true, and_false, false_and, Int.cast_ofNat_Int, decide_true, decide_false, Bool.true_and, Bool.false_and, Bool.and_true, Bool.and_false, dIx_t0, dIx_t1, dIx_l0, dIx_l1, toItems, itemsOf, runF, runL, startE, endF, endL, R.bind_ok, R.bind_exc, R.bind_stuck, gSeq, gIf, gSet, gOwn, gRet, gRetL, gRetO, gDrop, gTgt, gT, gsC, gsN, gN, gFor, gApp, gExt, gFrz, gNil, gExc, eVar, eC, e1, e2, eA, aNil, aCons, eTup, eLst, eCall, lCall, listR, eChain, tV, tAndD, tOrD, tNotD, eAnd, eOr, eNot, eIf, eL, lDisp, lList, lRep, oNone, oSome, eSl, iSeq, iRng1, iRng2, iZipD, iEnumD, iRevD, lListRange, lLc, eSorted, eSortSet, eLenSet, eBor, tBor, tYesD, noE, toB, dCmp, dSub, dNeg, dInt, dLen, dIs, dIsNot, List.map_cons, List.map_nil, List.length_cons, List.length_nil, Nat.reduceAdd, Nat.reduceSub, Nat.reduceLeDiff, List.replicate, List.cons_append, List.nil_append, List.append_nil, List.getElem?_cons_zero, List.getElem?_cons_succ, List.set_cons_zero, List.set_cons_succ, if_true, if_false, reduceIte, Bool.not_true, Bool.not_false, Bool.false_eq_true, reduceCtorEq, decide_eq_true a1, decide_eq_false a2, q1]⟩
    · exact ⟨mo, mo1, mo2, by simp only [dIx_pick, dMod, dDiv, dList, dTuple, dRev, dSl, Int.reduceLT, Int.reduceLE, Int.reduceEq, Int.reduceSub, Int.reduceAdd, and_self, true_and, and_true, and_false, false_and, Int.cast_ofNat_Int, decide_true, decide_false, Bool.true_and, Bool.false_and, Bool.and_true, Bool.and_false, dIx_t0, dIx_t1, dIx_l0, dIx_l1, toItems, itemsOf, runF, runL, startE, endF, endL, R.bind_ok, R.bind_exc, R.bind_stuck, gSeq, gIf, gSet, gOwn, gRet, gRetL, gRetO, gDrop, gTgt, gT, gsC, gsN, gN, gFor, gApp, gExt, gFrz, gNil, gExc, eVar, eC, e1, e2, eA, aNil, aCons, eTup, eLst, eCall, lCall, listR, eChain, tV, tAndD, tOrD, tNotD, eAnd, eOr, eNot, eIf, eL, lDisp, lList, lRep, oNone, oSome, eSl, iSeq, iRng1, iRng2, iZipD, iEnumD, iRevD, lListRange, lLc, eSorted, eSortSet, eLenSet, eBor, tBor, tYesD, noE, toB, dCmp, dSub, dNeg, dInt, dLen, dIs, dIsNot, List.map_cons, List.map_nil, List.length_cons, List.length_nil, Nat.reduceAdd, Nat.reduceSub, Nat.reduceLeDiff, List.replicate, List.cons_append, List.nil_append, List.append_nil, List.getElem?_cons_zero, List.getElem?_cons_succ, List.set_cons_zero, List.set_cons_succ, if_true, if_false, reduceIte, Bool.not_true, Bool.not_false, Bool.false_eq_true, reduceCtorEq, decide_eq_false a1]⟩
  -- how many
  have hmo : (0 : Int) < mo' := by omega
  obtain ⟨j, j1, j2, ecnt⟩ : ∃ j : Int, 1 ≤ j ∧ j ≤ 12 ∧ (e2 dIx (eLst (aCons (e2 dAdd (eC (.int 1)) (e2 dMod (eVar 8) (eVar 5))) (aCons (eVar 5) aNil))) (eA dInt (aCons (eAnd (e2 dEq (eVar 5) (eC (.int 12))) (e2 dGt (eVar 4) (eC (.int 3)))) aNil)) : Env noObj → R D)
        [.val (scriptD ns), .val (.int at_), .val (.int g), .val (.int (mixI ns at_)), .val (.int m), .val (.int mo'), .val (.list (ps.map encC)), t7, .val (.int (mixI ns at_ / 36)), .own [], .no, .no] = .ok (.int j) := by
    have b0 := Int.emod_nonneg (mixI ns at_ / 36) (show mo' ≠ 0 by omega)
    have b1 := Int.emod_lt_of_pos (mixI ns at_ / 36) hmo
    by_cases a1 : mo' = 12
    · by_cases a2 : (3 : Int) < m
      · exact ⟨mo', mo1', mo2', by simp only [dIx_pick, dMod, dDiv, dList, dTuple, dRev, dSl, Int.reduceLT, Int.reduceLE, Int.reduceEq, Int.reduceSub, Int.reduceAdd, and_self, true_and, and_true, and_false, false_and, Int.cast_ofNat_Int, decide_true, decide_false, Bool.true_and, Bool.false_and, Bool.and_true, Bool.and_false, dIx_t0, dIx_t1, dIx_l0, dIx_l1, toItems, itemsOf, runF, runL, startE, endF, endL, R.bind_ok, R.bind_exc, R.bind_stuck, gSeq, gIf, gSet, gOwn, gRet, gRetL, gRetO, gDrop, gTgt, gT, gsC, gsN, gN, gFor, gApp, gExt, gFrz, gNil, gExc, eVar, eC, e1, e2, eA, aNil, aCons, eTup, eLst, eCall, lCall, listR, eChain, tV, tAndD, tOrD, tNotD, eAnd, eOr, eNot, eIf, eL, lDisp, lList, lRep, oNone, oSome, eSl, iSeq, iRng1, iRng2, iZipD, iEnumD, iRevD, lListRange, lLc, eSorted, eSortSet, eLenSet, eBor, tBor, tYesD, noE, toB, dCmp, dSub, dNeg, dInt, dLen, dIs, dIsNot, List.map_cons, List.map_nil, List.length_cons, List.length_nil, Nat.reduceAdd, Nat.reduceSub, Nat.reduceLeDiff, List.replicate, List.cons_append, List.nil_append, List.append_nil, List.getElem?_cons_zero, List.getElem?_cons_succ, List.set_cons_zero, List.set_cons_succ, if_true, if_false, reduceIte, Bool.not_true, Bool.not_false, Bool.false_eq_true, reduceCtorEq, dEq_int, decide_eq_true a1, decide_eq_true a2, hmo, dAdd]⟩
      · exact ⟨1 + mixI ns at_ / 36 % mo', by omega, by omega, by simp only [dIx_pick, dMod, dDiv, dList, dTuple, dRev, dSl, Int.reduceLT, Int.reduceLE, Int.reduceEq, Int.reduceSub, Int.reduceAdd, and_self, true_and, and_true, and_false, false_and, Int.cast_ofNat_Int, decide_true, decide_false, Bool.true_and, Bool.false_and, Bool.and_true, Bool.and_false, dIx_t0, dIx_t1, dIx_l0, dIx_l1, toItems, itemsOf, runF, runL, startE, endF, endL, R.bind_ok, R.bind_exc, R.bind_stuck, gSeq, gIf, gSet, gOwn, gRet, gRetL, gRetO, gDrop, gTgt, gT, gsC, gsN, gN, gFor, gApp, gExt, gFrz, gNil, gExc, eVar, eC, e1, e2, eA, aNil, aCons, eTup, eLst, eCall, lCall, listR, eChain, tV, tAndD, tOrD, tNotD, eAnd, eOr, eNot, eIf, eL, lDisp, lList, lRep, oNone, oSome, eSl, iSeq, iRng1, iRng2, iZipD, iEnumD, iRevD, lListRange, lLc, eSorted, eSortSet, eLenSet, eBor, tBor, tYesD, noE, toB, dCmp, dSub, dNeg, dInt, dLen, dIs, dIsNot, List.map_cons, List.map_nil, List.length_cons, List.length_nil, Nat.reduceAdd, Nat.reduceSub, Nat.reduceLeDiff, List.replicate, List.cons_append, List.nil_append, List.append_nil, List.getElem?_cons_zero, List.getElem?_cons_succ, List.set_cons_zero, List.set_cons_succ, if_true, if_false, reduceIte, Bool.not_true, Bool.not_false, Bool.false_eq_true, reduceCtorEq, dEq_int, decide_eq_true a1, decide_eq_false a2, hmo, dAdd]⟩
    · exact ⟨1 + mixI ns at_ / 36 % mo', by omega, by omega, by simp only [dIx_pick, dMod, dDiv, dList, dTuple, dRev, dSl, Int.reduceLT, Int.reduceLE, Int.reduceEq, Int.reduceSub, Int.reduceAdd, and_self, true_and, and_true, and_false, false_and, Int.cast_ofNat_Int, decide_true, decide_false, Bool.true_and, Bool.false_and, Bool.and_true, Bool.and_false, dIx_t0, dIx_t1, dIx_l0, dIx_l1, toItems, itemsOf, runF, runL, startE, endF, endL, R.bind_ok, R.bind_exc, R.bind_stuck, gSeq, gIf, gSet, gOwn, gRet, gRetL, gRetO, gDrop, gTgt, gT, gsC, gsN, gN, gFor, gApp, gExt, gFrz, gNil, gExc, eVar, eC, e1, e2, eA, aNil, aCons, eTup, eLst, eCall, lCall, listR, eChain, tV, tAndD, tOrD, tNotD, eAnd, eOr, eNot, eIf, eL, lDisp, lList, lRep, oNone, oSome, eSl, iSeq, iRng1, iRng2, iZipD, iEnumD, iRevD, lListRange, lLc, eSorted, eSortSet, eLenSet, eBor, tBor, tYesD, noE, toB, dCmp, dSub, dNeg, dInt, dLen, dIs, dIsNot, List.map_cons, List.map_nil, List.length_cons, List.length_nil, Nat.reduceAdd, Nat.reduceSub, Nat.reduceLeDiff, List.replicate, List.cons_append, List.nil_append, List.append_nil, List.getElem?_cons_zero, List.getElem?_cons_succ, List.set_cons_zero, List.set_cons_succ, if_true, if_false, reduceIte, Bool.not_true, Bool.not_false, Bool.false_eq_true, reduceCtorEq, dEq_int, decide_eq_false a1, hmo, dAdd]⟩
  obtain ⟨js, u1, u2, u3⟩ := rd_ints j (by omega)
  obtain ⟨cs, x7, x10, l2, v1, v2, v3, v4⟩ := puz_loop2 ps hpn hpl hps (mixI ns at_ / 36) (.val (scriptD ns)) (.val (.int at_)) (.val (.int g)) (.val (.int (mixI ns at_))) (.val (.int m)) (.val (.int mo')) js [] t7 .no (by simp) (by simp) (by simp only [List.length_nil]; omega)
  simp only [List.length_nil] at v3 v4
  refine ⟨m, cs, ?_, hm, hmg, ⟨v1, v2, v4 (by omega), by omega⟩⟩
  unfold F__law_puzzle g__law_puzzle
  generalize hG1 : (gIf (tV (e2 dGt (e2 dMod (e2 dDiv (eVar 3) (eC (.int 6))) (eC (.int 6))) (eC (.int 0)))) (gSet 6 (eCall 2 (listR F__law_pool) (aCons (eVar 4) (aCons (e2 dSub (e2 dMod (e2 dDiv (eVar 3) (eC (.int 6))) (eC (.int 6))) (eC (.int 1))) aNil)))) gNil : GS noObj) = G1 at epool ⊢
  generalize hG2 : (gIf (tAndD (tV (e2 dGt (eVar 4) (eC (.int 3)))) (tAndD (tV (e2 dEq (e2 dMod (e2 dDiv (eVar 8) (eC (.int 256))) (eC (.int 4))) (eC (.int 1)))) (tV (e2 dGt (e2 dMod (e2 dDiv (eVar 3) (eC (.int 6))) (eC (.int 6))) (eC (.int 0)))))) (gSet 5 (eC (.int 12))) gNil : GS noObj) = G2 at emost ⊢
  generalize hG3 : (e2 dIx (eLst (aCons (e2 dAdd (eC (.int 1)) (e2 dMod (eVar 8) (eVar 5))) (aCons (eVar 5) aNil))) (eA dInt (aCons (eAnd (e2 dEq (eVar 5) (eC (.int 12))) (e2 dGt (eVar 4) (eC (.int 3)))) aNil)) : Env noObj → R D) = G3 at ecnt ⊢
  have jj : (-100000 ≤ j ∧ j ≤ 100000) := by omega
  simp only [dIx_pick, dMod, dDiv, dList, dTuple, dRev, dSl, Int.reduceLT, Int.reduceLE, Int.reduceEq, Int.reduceSub, Int.reduceAdd, and_self, true_and, and_true, and_false, false_and, Int.cast_ofNat_Int, decide_true, decide_false, Bool.true_and, Bool.false_and, Bool.and_true, Bool.and_false, dIx_t0, dIx_t1, dIx_l0, dIx_l1, toItems, itemsOf, runF, runL, startE, endF, endL, R.bind_ok, R.bind_exc, R.bind_stuck, gSeq, gIf, gSet, gOwn, gRet, gRetL, gRetO, gDrop, gTgt, gT, gsC, gsN, gN, gFor, gApp, gExt, gFrz, gNil, gExc, eVar, eC, e1, e2, eA, aNil, aCons, eTup, eLst, eCall, lCall, listR, eChain, tV, tAndD, tOrD, tNotD, eAnd, eOr, eNot, eIf, eL, lDisp, lList, lRep, oNone, oSome, eSl, iSeq, iRng1, iRng2, iZipD, iEnumD, iRevD, lListRange, lLc, eSorted, eSortSet, eLenSet, eBor, tBor, tYesD, noE, toB, dCmp, dSub, dNeg, dInt, dLen, dIs, dIsNot, List.map_cons, List.map_nil, List.length_cons, List.length_nil, Nat.reduceAdd, Nat.reduceSub, Nat.reduceLeDiff, List.replicate, List.cons_append, List.nil_append, List.append_nil, List.getElem?_cons_zero, List.getElem?_cons_succ, List.set_cons_zero, List.set_cons_succ, if_true, if_false, reduceIte, Bool.not_true, Bool.not_false, Bool.false_eq_true, reduceCtorEq, mixed_eq ns at_ h0, k2, k3, k4, r1]
  simp only [List.map_nil] at l1 l2
  simp only [dIx_pick, dMod, dDiv, dList, dTuple, dRev, dSl, Int.reduceLT, Int.reduceLE, Int.reduceEq, Int.reduceSub, Int.reduceAdd, and_self, true_and, and_true, and_false, false_and, Int.cast_ofNat_Int, decide_true, decide_false, Bool.true_and, Bool.false_and, Bool.and_true, Bool.and_false, dIx_t0, dIx_t1, dIx_l0, dIx_l1, toItems, itemsOf, runF, runL, startE, endF, endL, R.bind_ok, R.bind_exc, R.bind_stuck, gSeq, gIf, gSet, gOwn, gRet, gRetL, gRetO, gDrop, gTgt, gT, gsC, gsN, gN, gFor, gApp, gExt, gFrz, gNil, gExc, eVar, eC, e1, e2, eA, aNil, aCons, eTup, eLst, eCall, lCall, listR, eChain, tV, tAndD, tOrD, tNotD, eAnd, eOr, eNot, eIf, eL, lDisp, lList, lRep, oNone, oSome, eSl, iSeq, iRng1, iRng2, iZipD, iEnumD, iRevD, lListRange, lLc, eSorted, eSortSet, eLenSet, eBor, tBor, tYesD, noE, toB, dCmp, dSub, dNeg, dInt, dLen, dIs, dIsNot, List.map_cons, List.map_nil, List.length_cons, List.length_nil, Nat.reduceAdd, Nat.reduceSub, Nat.reduceLeDiff, List.replicate, List.cons_append, List.nil_append, List.append_nil, List.getElem?_cons_zero, List.getElem?_cons_succ, List.set_cons_zero, List.set_cons_succ, if_true, if_false, reduceIte, Bool.not_true, Bool.not_false, Bool.false_eq_true, reduceCtorEq, l1, epool, emost, ecnt, jj, u1, l2]
end W

set_option Elab.async false
set_option linter.all false
set_option maxRecDepth 100000
set_option maxHeartbeats 1000000
namespace W
open PySem PL
/-! ### came -/
def atc (c : List Int) (i : Int) : Int := c.getD i.toNat 0
def sumAt (c a : List Int) : Int := (a.map (atc c)).sum
def sgn (x : Int) : Int := if 0 < x then 1 else if x < 0 then -1 else 0
def cameI (a b c : List Int) : Int := sgn (sumAt c a - sumAt c b)
def fits (c a : List Int) : Prop := ∀ i ∈ a, 0 ≤ i ∧ i < c.length
theorem dIx_at {c : List Int} {i : Int} (h : 0 ≤ i ∧ i < c.length) : dIx (.tuple (c.map PyData.int)) (.int i) = .ok (.int (atc c i)) := by
  refine dIx_tup h.1 ?_
  have hl : i.toNat < c.length := by omega
  rw [List.getElem?_map, List.getElem?_eq_getElem hl]
  simp [atc, List.getD, List.getElem?_eq_getElem hl]
theorem c_came (w : D) (a c : List Int) (hf : fits c a) (hl : a.length ≤ 100000) (k : Nat) (s2 s3 s4 s5 : PL.Slot noObj) (items : PL.Env noObj → R (List D)) (hi : items [.val w, .val (.tuple (c.map PyData.int)), s2, s3, s4, s5] = .ok (a.map PyData.int)) (h5 : plainAt [.val w, .val (.tuple (c.map PyData.int)), s2, s3, s4, s5] 5 = true) :
    lLc items (gN 5) tYesD (e2 dIx (eVar 1) (eVar 5)) [5] [.val w, .val (.tuple (c.map PyData.int)), s2, s3, s4, s5] = .ok ((a.map (atc c)).map PyData.int) := by
  unfold lLc
  rw [hi, R.bind_ok, if_pos ⟨by rw [List.length_map]; exact hl, by simp [h5]⟩]
  rw [List.map_map]
  refine noE_of ?_
  have key : ∀ (l : List Int), fits c l → eachR (lcStep (gN 5) tYesD (e2 dIx (eVar 1) (eVar 5)) (wipeE [.val w, .val (.tuple (c.map PyData.int)), s2, s3, s4, s5] [5])) (l.map PyData.int) = .ok (l.map (PyData.int ∘ atc c)) := fun l => by
    induction l with
    | nil => intro _; rfl
    | cons i r ih =>
      intro hf
      rw [List.map_cons, eachR, ih fun j hj => hf j (List.mem_cons_of_mem _ hj)]
      unfold lcStep
      simp only [dIx_t0, dIx_t1, dIx_l0, dIx_l1, toItems, itemsOf, runF, runL, startE, endF, endL, R.bind_ok, R.bind_exc, R.bind_stuck, gSeq, gIf, gSet, gOwn, gRet, gRetL, gRetO, gDrop, gTgt, gT, gsC, gsN, gN, gFor, gApp, gExt, gFrz, gNil, gExc, eVar, eC, e1, e2, eA, aNil, aCons, eTup, eLst, eCall, lCall, listR, eChain, tV, tAndD, tOrD, tNotD, eAnd, eOr, eNot, eIf, eL, lDisp, lList, lRep, oNone, oSome, eSl, iSeq, iRng1, iRng2, iZipD, iEnumD, iRevD, lListRange, lLc, eSorted, eSortSet, eLenSet, eBor, tBor, tYesD, noE, toB, dCmp, dSub, dNeg, dInt, dLen, dIs, dIsNot, List.map_cons, List.map_nil, List.length_cons, List.length_nil, Nat.reduceAdd, Nat.reduceSub, Nat.reduceLeDiff, List.replicate, List.cons_append, List.nil_append, List.append_nil, List.getElem?_cons_zero, List.getElem?_cons_succ, List.set_cons_zero, List.set_cons_succ, if_true, if_false, reduceIte, Bool.not_true, Bool.not_false, Bool.false_eq_true, reduceCtorEq, wipeE, dIx_at (hf i (List.mem_cons_self ..))]
      rfl
  exact key a hf
theorem sgn_eq (x : Int) : (if decide (0 < x) = true then (1 : Int) else 0) - (if decide (x < 0) = true then (1 : Int) else 0) = sgn x := by
  unfold sgn
  by_cases h1 : 0 < x
  · have h2 : ¬ x < 0 := by omega
    simp [h1, h2]
  · by_cases h2 : x < 0 <;> simp [h1, h2]
theorem F_came_eq (a b c : List Int) (ha : fits c a) (hb : fits c b) (la : a.length ≤ 100000) (lb : b.length ≤ 100000) :
    F_came [.tuple [.tuple (a.map PyData.int), .tuple (b.map PyData.int)], .tuple (c.map PyData.int)] = .ok (.int (cameI a b c)) := by
  have k1 : ∀ (w t : D), c_came_1 [.val w, .val (.tuple (c.map PyData.int)), .val (.tuple (a.map PyData.int)), .val t, .no, .no] = .ok ((a.map (atc c)).map PyData.int) := fun w t =>
    c_came w a c ha la 0 _ _ _ _ _ (by simp only [dIx_t0, dIx_t1, dIx_l0, dIx_l1, toItems, itemsOf, runF, runL, startE, endF, endL, R.bind_ok, R.bind_exc, R.bind_stuck, gSeq, gIf, gSet, gOwn, gRet, gRetL, gRetO, gDrop, gTgt, gT, gsC, gsN, gN, gFor, gApp, gExt, gFrz, gNil, gExc, eVar, eC, e1, e2, eA, aNil, aCons, eTup, eLst, eCall, lCall, listR, eChain, tV, tAndD, tOrD, tNotD, eAnd, eOr, eNot, eIf, eL, lDisp, lList, lRep, oNone, oSome, eSl, iSeq, iRng1, iRng2, iZipD, iEnumD, iRevD, lListRange, lLc, eSorted, eSortSet, eLenSet, eBor, tBor, tYesD, noE, toB, dCmp, dSub, dNeg, dInt, dLen, dIs, dIsNot, List.map_cons, List.map_nil, List.length_cons, List.length_nil, Nat.reduceAdd, Nat.reduceSub, Nat.reduceLeDiff, List.replicate, List.cons_append, List.nil_append, List.append_nil, List.getElem?_cons_zero, List.getElem?_cons_succ, List.set_cons_zero, List.set_cons_succ, if_true, if_false, reduceIte, Bool.not_true, Bool.not_false, Bool.false_eq_true, reduceCtorEq]) rfl
  have k2 : ∀ (w t : D), c_came_2 [.val w, .val (.tuple (c.map PyData.int)), .val t, .val (.tuple (b.map PyData.int)), .no, .no] = .ok ((b.map (atc c)).map PyData.int) := fun w t =>
    c_came w b c hb lb 0 _ _ _ _ _ (by simp only [dIx_t0, dIx_t1, dIx_l0, dIx_l1, toItems, itemsOf, runF, runL, startE, endF, endL, R.bind_ok, R.bind_exc, R.bind_stuck, gSeq, gIf, gSet, gOwn, gRet, gRetL, gRetO, gDrop, gTgt, gT, gsC, gsN, gN, gFor, gApp, gExt, gFrz, gNil, gExc, eVar, eC, e1, e2, eA, aNil, aCons, eTup, eLst, eCall, lCall, listR, eChain, tV, tAndD, tOrD, tNotD, eAnd, eOr, eNot, eIf, eL, lDisp, lList, lRep, oNone, oSome, eSl, iSeq, iRng1, iRng2, iZipD, iEnumD, iRevD, lListRange, lLc, eSorted, eSortSet, eLenSet, eBor, tBor, tYesD, noE, toB, dCmp, dSub, dNeg, dInt, dLen, dIs, dIsNot, List.map_cons, List.map_nil, List.length_cons, List.length_nil, Nat.reduceAdd, Nat.reduceSub, Nat.reduceLeDiff, List.replicate, List.cons_append, List.nil_append, List.append_nil, List.getElem?_cons_zero, List.getElem?_cons_succ, List.set_cons_zero, List.set_cons_succ, if_true, if_false, reduceIte, Bool.not_true, Bool.not_false, Bool.false_eq_true, reduceCtorEq]) rfl
  unfold F_came g_came
  simp only [dIx_t0, dIx_t1, dIx_l0, dIx_l1, toItems, itemsOf, runF, runL, startE, endF, endL, R.bind_ok, R.bind_exc, R.bind_stuck, gSeq, gIf, gSet, gOwn, gRet, gRetL, gRetO, gDrop, gTgt, gT, gsC, gsN, gN, gFor, gApp, gExt, gFrz, gNil, gExc, eVar, eC, e1, e2, eA, aNil, aCons, eTup, eLst, eCall, lCall, listR, eChain, tV, tAndD, tOrD, tNotD, eAnd, eOr, eNot, eIf, eL, lDisp, lList, lRep, oNone, oSome, eSl, iSeq, iRng1, iRng2, iZipD, iEnumD, iRevD, lListRange, lLc, eSorted, eSortSet, eLenSet, eBor, tBor, tYesD, noE, toB, dCmp, dSub, dNeg, dInt, dLen, dIs, dIsNot, List.map_cons, List.map_nil, List.length_cons, List.length_nil, Nat.reduceAdd, Nat.reduceSub, Nat.reduceLeDiff, List.replicate, List.cons_append, List.nil_append, List.append_nil, List.getElem?_cons_zero, List.getElem?_cons_succ, List.set_cons_zero, List.set_cons_succ, if_true, if_false, reduceIte, Bool.not_true, Bool.not_false, Bool.false_eq_true, reduceCtorEq, k1, k2, dSum, intsOf_map]
  rw [sgn_eq]
  rfl
theorem step_L1 (w : D) (c : List Int) (x i : Int) (h : 0 ≤ i ∧ i < c.length) : g__law_came_L1 [.val w, .val (.tuple (c.map PyData.int)), .val (.int x), .val (.int i)] = .ok (.nx, [.val w, .val (.tuple (c.map PyData.int)), .val (.int (x + atc c i)), .val (.int i)]) := by
  unfold g__law_came_L1
  simp only [dIx_t0, dIx_t1, dIx_l0, dIx_l1, toItems, itemsOf, runF, runL, startE, endF, endL, R.bind_ok, R.bind_exc, R.bind_stuck, gSeq, gIf, gSet, gOwn, gRet, gRetL, gRetO, gDrop, gTgt, gT, gsC, gsN, gN, gFor, gApp, gExt, gFrz, gNil, gExc, eVar, eC, e1, e2, eA, aNil, aCons, eTup, eLst, eCall, lCall, listR, eChain, tV, tAndD, tOrD, tNotD, eAnd, eOr, eNot, eIf, eL, lDisp, lList, lRep, oNone, oSome, eSl, iSeq, iRng1, iRng2, iZipD, iEnumD, iRevD, lListRange, lLc, eSorted, eSortSet, eLenSet, eBor, tBor, tYesD, noE, toB, dCmp, dSub, dNeg, dInt, dLen, dIs, dIsNot, List.map_cons, List.map_nil, List.length_cons, List.length_nil, Nat.reduceAdd, Nat.reduceSub, Nat.reduceLeDiff, List.replicate, List.cons_append, List.nil_append, List.append_nil, List.getElem?_cons_zero, List.getElem?_cons_succ, List.set_cons_zero, List.set_cons_succ, if_true, if_false, reduceIte, Bool.not_true, Bool.not_false, Bool.false_eq_true, reduceCtorEq, dIx_at h, dAdd]
theorem step_L2 (w : D) (c : List Int) (x i : Int) (h : 0 ≤ i ∧ i < c.length) : g__law_came_L2 [.val w, .val (.tuple (c.map PyData.int)), .val (.int x), .val (.int i)] = .ok (.nx, [.val w, .val (.tuple (c.map PyData.int)), .val (.int (x - atc c i)), .val (.int i)]) := by
  unfold g__law_came_L2
  simp only [dIx_t0, dIx_t1, dIx_l0, dIx_l1, toItems, itemsOf, runF, runL, startE, endF, endL, R.bind_ok, R.bind_exc, R.bind_stuck, gSeq, gIf, gSet, gOwn, gRet, gRetL, gRetO, gDrop, gTgt, gT, gsC, gsN, gN, gFor, gApp, gExt, gFrz, gNil, gExc, eVar, eC, e1, e2, eA, aNil, aCons, eTup, eLst, eCall, lCall, listR, eChain, tV, tAndD, tOrD, tNotD, eAnd, eOr, eNot, eIf, eL, lDisp, lList, lRep, oNone, oSome, eSl, iSeq, iRng1, iRng2, iZipD, iEnumD, iRevD, lListRange, lLc, eSorted, eSortSet, eLenSet, eBor, tBor, tYesD, noE, toB, dCmp, dSub, dNeg, dInt, dLen, dIs, dIsNot, List.map_cons, List.map_nil, List.length_cons, List.length_nil, Nat.reduceAdd, Nat.reduceSub, Nat.reduceLeDiff, List.replicate, List.cons_append, List.nil_append, List.append_nil, List.getElem?_cons_zero, List.getElem?_cons_succ, List.set_cons_zero, List.set_cons_succ, if_true, if_false, reduceIte, Bool.not_true, Bool.not_false, Bool.false_eq_true, reduceCtorEq, dIx_at h]
theorem lawcame_L1 (w : D) (c : List Int) : ∀ (a : List Int) (x : Int) (s3 : PL.Slot noObj), fits c a → ∃ s3', loopF (gN 3) g__law_came_L1 (a.map PyData.int) [.val w, .val (.tuple (c.map PyData.int)), .val (.int x), s3] = .ok (.nx, [.val w, .val (.tuple (c.map PyData.int)), .val (.int (x + sumAt c a)), s3'])
  | [], x, s3, _ => ⟨s3, by simp only [dIx_t0, dIx_t1, dIx_l0, dIx_l1, toItems, itemsOf, runF, runL, startE, endF, endL, R.bind_ok, R.bind_exc, R.bind_stuck, gSeq, gIf, gSet, gOwn, gRet, gRetL, gRetO, gDrop, gTgt, gT, gsC, gsN, gN, gFor, gApp, gExt, gFrz, gNil, gExc, eVar, eC, e1, e2, eA, aNil, aCons, eTup, eLst, eCall, lCall, listR, eChain, tV, tAndD, tOrD, tNotD, eAnd, eOr, eNot, eIf, eL, lDisp, lList, lRep, oNone, oSome, eSl, iSeq, iRng1, iRng2, iZipD, iEnumD, iRevD, lListRange, lLc, eSorted, eSortSet, eLenSet, eBor, tBor, tYesD, noE, toB, dCmp, dSub, dNeg, dInt, dLen, dIs, dIsNot, List.map_cons, List.map_nil, List.length_cons, List.length_nil, Nat.reduceAdd, Nat.reduceSub, Nat.reduceLeDiff, List.replicate, List.cons_append, List.nil_append, List.append_nil, List.getElem?_cons_zero, List.getElem?_cons_succ, List.set_cons_zero, List.set_cons_succ, if_true, if_false, reduceIte, Bool.not_true, Bool.not_false, Bool.false_eq_true, reduceCtorEq, loopF, sumAt, List.sum_nil, Int.add_zero]⟩
  | i :: r, x, s3, hf => by
    obtain ⟨s3', e⟩ := lawcame_L1 w c r (x + atc c i) (.val (.int i)) fun j hj => hf j (List.mem_cons_of_mem _ hj)
    refine ⟨s3', ?_⟩
    simp only [dIx_t0, dIx_t1, dIx_l0, dIx_l1, toItems, itemsOf, runF, runL, startE, endF, endL, R.bind_ok, R.bind_exc, R.bind_stuck, gSeq, gIf, gSet, gOwn, gRet, gRetL, gRetO, gDrop, gTgt, gT, gsC, gsN, gN, gFor, gApp, gExt, gFrz, gNil, gExc, eVar, eC, e1, e2, eA, aNil, aCons, eTup, eLst, eCall, lCall, listR, eChain, tV, tAndD, tOrD, tNotD, eAnd, eOr, eNot, eIf, eL, lDisp, lList, lRep, oNone, oSome, eSl, iSeq, iRng1, iRng2, iZipD, iEnumD, iRevD, lListRange, lLc, eSorted, eSortSet, eLenSet, eBor, tBor, tYesD, noE, toB, dCmp, dSub, dNeg, dInt, dLen, dIs, dIsNot, List.map_cons, List.map_nil, List.length_cons, List.length_nil, Nat.reduceAdd, Nat.reduceSub, Nat.reduceLeDiff, List.replicate, List.cons_append, List.nil_append, List.append_nil, List.getElem?_cons_zero, List.getElem?_cons_succ, List.set_cons_zero, List.set_cons_succ, if_true, if_false, reduceIte, Bool.not_true, Bool.not_false, Bool.false_eq_true, reduceCtorEq, loopF, step_L1 w c x i (hf i (List.mem_cons_self ..)), e, sumAt, List.sum_cons, Int.add_assoc]
theorem lawcame_L2 (w : D) (c : List Int) : ∀ (a : List Int) (x : Int) (s3 : PL.Slot noObj), fits c a → ∃ s3', loopF (gN 3) g__law_came_L2 (a.map PyData.int) [.val w, .val (.tuple (c.map PyData.int)), .val (.int x), s3] = .ok (.nx, [.val w, .val (.tuple (c.map PyData.int)), .val (.int (x - sumAt c a)), s3'])
  | [], x, s3, _ => ⟨s3, by simp only [dIx_t0, dIx_t1, dIx_l0, dIx_l1, toItems, itemsOf, runF, runL, startE, endF, endL, R.bind_ok, R.bind_exc, R.bind_stuck, gSeq, gIf, gSet, gOwn, gRet, gRetL, gRetO, gDrop, gTgt, gT, gsC, gsN, gN, gFor, gApp, gExt, gFrz, gNil, gExc, eVar, eC, e1, e2, eA, aNil, aCons, eTup, eLst, eCall, lCall, listR, eChain, tV, tAndD, tOrD, tNotD, eAnd, eOr, eNot, eIf, eL, lDisp, lList, lRep, oNone, oSome, eSl, iSeq, iRng1, iRng2, iZipD, iEnumD, iRevD, lListRange, lLc, eSorted, eSortSet, eLenSet, eBor, tBor, tYesD, noE, toB, dCmp, dSub, dNeg, dInt, dLen, dIs, dIsNot, List.map_cons, List.map_nil, List.length_cons, List.length_nil, Nat.reduceAdd, Nat.reduceSub, Nat.reduceLeDiff, List.replicate, List.cons_append, List.nil_append, List.append_nil, List.getElem?_cons_zero, List.getElem?_cons_succ, List.set_cons_zero, List.set_cons_succ, if_true, if_false, reduceIte, Bool.not_true, Bool.not_false, Bool.false_eq_true, reduceCtorEq, loopF, sumAt, List.sum_nil, Int.sub_zero]⟩
  | i :: r, x, s3, hf => by
    obtain ⟨s3', e⟩ := lawcame_L2 w c r (x - atc c i) (.val (.int i)) fun j hj => hf j (List.mem_cons_of_mem _ hj)
    refine ⟨s3', ?_⟩
    simp only [dIx_t0, dIx_t1, dIx_l0, dIx_l1, toItems, itemsOf, runF, runL, startE, endF, endL, R.bind_ok, R.bind_exc, R.bind_stuck, gSeq, gIf, gSet, gOwn, gRet, gRetL, gRetO, gDrop, gTgt, gT, gsC, gsN, gN, gFor, gApp, gExt, gFrz, gNil, gExc, eVar, eC, e1, e2, eA, aNil, aCons, eTup, eLst, eCall, lCall, listR, eChain, tV, tAndD, tOrD, tNotD, eAnd, eOr, eNot, eIf, eL, lDisp, lList, lRep, oNone, oSome, eSl, iSeq, iRng1, iRng2, iZipD, iEnumD, iRevD, lListRange, lLc, eSorted, eSortSet, eLenSet, eBor, tBor, tYesD, noE, toB, dCmp, dSub, dNeg, dInt, dLen, dIs, dIsNot, List.map_cons, List.map_nil, List.length_cons, List.length_nil, Nat.reduceAdd, Nat.reduceSub, Nat.reduceLeDiff, List.replicate, List.cons_append, List.nil_append, List.append_nil, List.getElem?_cons_zero, List.getElem?_cons_succ, List.set_cons_zero, List.set_cons_succ, if_true, if_false, reduceIte, Bool.not_true, Bool.not_false, Bool.false_eq_true, reduceCtorEq, loopF, step_L2 w c x i (hf i (List.mem_cons_self ..)), e]
    simp only [sumAt, List.map_cons, List.sum_cons, show ∀ p q r : Int, p - q - r = p - (q + r) from by intros; omega]
theorem F__law_came_eq (a b c : List Int) (ha : fits c a) (hb : fits c b) :
    F__law_came [.tuple [.tuple (a.map PyData.int), .tuple (b.map PyData.int)], .tuple (c.map PyData.int)] = .ok (.int (cameI a b c)) := by
  unfold F__law_came g__law_came
  obtain ⟨s3, k1⟩ := lawcame_L1 (.tuple [.tuple (a.map PyData.int), .tuple (b.map PyData.int)]) c a 0 .no ha
  obtain ⟨s4, k2⟩ := lawcame_L2 (.tuple [.tuple (a.map PyData.int), .tuple (b.map PyData.int)]) c b (0 + sumAt c a) s3 hb
  simp only [dIx_t0, dIx_t1, dIx_l0, dIx_l1, toItems, itemsOf, runF, runL, startE, endF, endL, R.bind_ok, R.bind_exc, R.bind_stuck, gSeq, gIf, gSet, gOwn, gRet, gRetL, gRetO, gDrop, gTgt, gT, gsC, gsN, gN, gFor, gApp, gExt, gFrz, gNil, gExc, eVar, eC, e1, e2, eA, aNil, aCons, eTup, eLst, eCall, lCall, listR, eChain, tV, tAndD, tOrD, tNotD, eAnd, eOr, eNot, eIf, eL, lDisp, lList, lRep, oNone, oSome, eSl, iSeq, iRng1, iRng2, iZipD, iEnumD, iRevD, lListRange, lLc, eSorted, eSortSet, eLenSet, eBor, tBor, tYesD, noE, toB, dCmp, dSub, dNeg, dInt, dLen, dIs, dIsNot, List.map_cons, List.map_nil, List.length_cons, List.length_nil, Nat.reduceAdd, Nat.reduceSub, Nat.reduceLeDiff, List.replicate, List.cons_append, List.nil_append, List.append_nil, List.getElem?_cons_zero, List.getElem?_cons_succ, List.set_cons_zero, List.set_cons_succ, if_true, if_false, reduceIte, Bool.not_true, Bool.not_false, Bool.false_eq_true, reduceCtorEq, k1, k2]
  unfold cameI sgn
  rw [Int.zero_add]
  by_cases h1 : 0 < sumAt c a - sumAt c b
  · simp only [dIx_t0, dIx_t1, dIx_l0, dIx_l1, toItems, itemsOf, runF, runL, startE, endF, endL, R.bind_ok, R.bind_exc, R.bind_stuck, gSeq, gIf, gSet, gOwn, gRet, gRetL, gRetO, gDrop, gTgt, gT, gsC, gsN, gN, gFor, gApp, gExt, gFrz, gNil, gExc, eVar, eC, e1, e2, eA, aNil, aCons, eTup, eLst, eCall, lCall, listR, eChain, tV, tAndD, tOrD, tNotD, eAnd, eOr, eNot, eIf, eL, lDisp, lList, lRep, oNone, oSome, eSl, iSeq, iRng1, iRng2, iZipD, iEnumD, iRevD, lListRange, lLc, eSorted, eSortSet, eLenSet, eBor, tBor, tYesD, noE, toB, dCmp, dSub, dNeg, dInt, dLen, dIs, dIsNot, List.map_cons, List.map_nil, List.length_cons, List.length_nil, Nat.reduceAdd, Nat.reduceSub, Nat.reduceLeDiff, List.replicate, List.cons_append, List.nil_append, List.append_nil, List.getElem?_cons_zero, List.getElem?_cons_succ, List.set_cons_zero, List.set_cons_succ, if_true, if_false, reduceIte, Bool.not_true, Bool.not_false, Bool.false_eq_true, reduceCtorEq, decide_eq_true h1, if_pos h1]
  · by_cases h2 : sumAt c a - sumAt c b < 0
    · simp only [dIx_t0, dIx_t1, dIx_l0, dIx_l1, toItems, itemsOf, runF, runL, startE, endF, endL, R.bind_ok, R.bind_exc, R.bind_stuck, gSeq, gIf, gSet, gOwn, gRet, gRetL, gRetO, gDrop, gTgt, gT, gsC, gsN, gN, gFor, gApp, gExt, gFrz, gNil, gExc, eVar, eC, e1, e2, eA, aNil, aCons, eTup, eLst, eCall, lCall, listR, eChain, tV, tAndD, tOrD, tNotD, eAnd, eOr, eNot, eIf, eL, lDisp, lList, lRep, oNone, oSome, eSl, iSeq, iRng1, iRng2, iZipD, iEnumD, iRevD, lListRange, lLc, eSorted, eSortSet, eLenSet, eBor, tBor, tYesD, noE, toB, dCmp, dSub, dNeg, dInt, dLen, dIs, dIsNot, List.map_cons, List.map_nil, List.length_cons, List.length_nil, Nat.reduceAdd, Nat.reduceSub, Nat.reduceLeDiff, List.replicate, List.cons_append, List.nil_append, List.append_nil, List.getElem?_cons_zero, List.getElem?_cons_succ, List.set_cons_zero, List.set_cons_succ, if_true, if_false, reduceIte, Bool.not_true, Bool.not_false, Bool.false_eq_true, reduceCtorEq, decide_eq_false h1, decide_eq_true h2, if_neg h1, if_pos h2]
    · simp only [dIx_t0, dIx_t1, dIx_l0, dIx_l1, toItems, itemsOf, runF, runL, startE, endF, endL, R.bind_ok, R.bind_exc, R.bind_stuck, gSeq, gIf, gSet, gOwn, gRet, gRetL, gRetO, gDrop, gTgt, gT, gsC, gsN, gN, gFor, gApp, gExt, gFrz, gNil, gExc, eVar, eC, e1, e2, eA, aNil, aCons, eTup, eLst, eCall, lCall, listR, eChain, tV, tAndD, tOrD, tNotD, eAnd, eOr, eNot, eIf, eL, lDisp, lList, lRep, oNone, oSome, eSl, iSeq, iRng1, iRng2, iZipD, iEnumD, iRevD, lListRange, lLc, eSorted, eSortSet, eLenSet, eBor, tBor, tYesD, noE, toB, dCmp, dSub, dNeg, dInt, dLen, dIs, dIsNot, List.map_cons, List.map_nil, List.length_cons, List.length_nil, Nat.reduceAdd, Nat.reduceSub, Nat.reduceLeDiff, List.replicate, List.cons_append, List.nil_append, List.append_nil, List.getElem?_cons_zero, List.getElem?_cons_succ, List.set_cons_zero, List.set_cons_succ, if_true, if_false, reduceIte, Bool.not_true, Bool.not_false, Bool.false_eq_true, reduceCtorEq, decide_eq_false h1, decide_eq_false h2, if_neg h1, if_neg h2]
theorem cameI_swap (a b c : List Int) : cameI b a c = 0 - cameI a b c := by
  unfold cameI sgn
  by_cases h1 : 0 < sumAt c a - sumAt c b
  · rw [if_neg (by omega), if_pos (by omega), if_pos h1]; rfl
  · by_cases h2 : sumAt c a - sumAt c b < 0
    · rw [if_pos (by omega), if_neg h1, if_pos h2]; rfl
    · rw [if_neg (by omega), if_neg (by omega), if_neg h1, if_neg h2]; rfl
end W

set_option Elab.async false
set_option linter.all false
set_option maxRecDepth 100000
set_option maxHeartbeats 1000000
namespace W
open PySem PL
/-! ### weighings, typed; those that lead -/
abbrev Wg := List Int × List Int
def encW (w : Wg) : D := .tuple [.tuple (w.1.map PyData.int), .tuple (w.2.map PyData.int)]
def Ws : Nat → List Wg
  | 2 => [([0], [1])]
  | 3 => [([0], [1]), ([0], [2]), ([1], [2])]
  | 4 => [([0], [1]), ([0], [2]), ([0], [3]), ([0, 1], [2, 3]), ([0, 2], [1, 3]), ([0, 3], [1, 2]), ([1], [2]), ([1], [3]), ([2], [3])]
  | 5 => [([0], [1]), ([0], [2]), ([0], [3]), ([0], [4]), ([0, 1], [2, 3]), ([0, 1], [2, 4]), ([0, 1], [3, 4]), ([0, 2], [1, 3]), ([0, 2], [1, 4]), ([0, 2], [3, 4]), ([0, 3], [1, 2]), ([0, 3], [1, 4]), ([0, 3], [2, 4]), ([0, 4], [1, 2]), ([0, 4], [1, 3]), ([0, 4], [2, 3]), ([1], [2]), ([1], [3]), ([1], [4]), ([1, 2], [3, 4]), ([1, 3], [2, 4]), ([1, 4], [2, 3]), ([2], [3]), ([2], [4]), ([3], [4])]
  | _ => []

set_option maxHeartbeats 0 in
theorem pans2 : F__law_pans [.int 2] = .ok ((Ws 2).map encW) := by kernel_rfl
set_option maxHeartbeats 0 in
theorem pans3 : F__law_pans [.int 3] = .ok ((Ws 3).map encW) := by kernel_rfl
set_option maxHeartbeats 0 in
theorem pans4 : F__law_pans [.int 4] = .ok ((Ws 4).map encW) := by kernel_rfl
set_option maxHeartbeats 0 in
theorem pans5 : F__law_pans [.int 5] = .ok ((Ws 5).map encW) := by kernel_rfl
theorem pans_eq {m : Nat} (hm : Many m) : F__law_pans [.int m] = .ok ((Ws m).map encW) := by
  rcases hm with rfl | rfl | rfl | rfl
  · exact pans2
  · exact pans3
  · exact pans4
  · exact pans5
def swapW (w : Wg) : Wg := (w.2, w.1)
theorem Ws_len {m : Nat} (hm : Many m) : 0 < (Ws m).length ∧ (Ws m).length ≤ 25 := by rcases hm with rfl | rfl | rfl | rfl <;> decide
end W

set_option Elab.async false
set_option linter.all false
set_option maxRecDepth 100000
set_option maxHeartbeats 1000000
namespace W
open PySem PL
/-! ### the cases by what a weighing comes to -/
def cm (w : Wg) (c : List Int) : Int := cameI w.1 w.2 c
def WgOk (m : Nat) (w : Wg) : Prop := (∀ i ∈ w.1, 0 ≤ i ∧ i < (m : Int)) ∧ (∀ i ∈ w.2, 0 ≤ i ∧ i < (m : Int)) ∧ w.1.length ≤ 30 ∧ w.2.length ≤ 30
theorem came_eq {m : Nat} {w : Wg} {c : List Int} (hw : WgOk m w) (hc : CaseOk m c) : F_came [encW w, encC c] = .ok (.int (cm w c)) :=
  F_came_eq w.1 w.2 c (fun i hi => by have := hw.1 i hi; rw [hc.1]; exact this) (fun i hi => by have := hw.2.1 i hi; rw [hc.1]; exact this) (by have := hw.2.2.1; omega) (by have := hw.2.2.2; omega)
theorem lcame_eq {m : Nat} {w : Wg} {c : List Int} (hw : WgOk m w) (hc : CaseOk m c) : F__law_came [encW w, encC c] = .ok (.int (cm w c)) :=
  F__law_came_eq w.1 w.2 c (fun i hi => by have := hw.1 i hi; rw [hc.1]; exact this) (fun i hi => by have := hw.2.1 i hi; rw [hc.1]; exact this)
theorem sgn_val (x : Int) : sgn x = -1 ∨ sgn x = 0 ∨ sgn x = 1 := by
  unfold sgn
  by_cases h1 : 0 < x
  · rw [if_pos h1]; simp
  · by_cases h2 : x < 0
    · rw [if_neg h1, if_pos h2]; simp
    · rw [if_neg h1, if_neg h2]; simp
theorem cm_val (w : Wg) (c : List Int) : cm w c = -1 ∨ cm w c = 0 ∨ cm w c = 1 := sgn_val _
theorem cm_swap (w : Wg) (c : List Int) : cm (swapW w) c = 0 - cm w c := cameI_swap w.1 w.2 c
def byW (w : Wg) (d : Int) (cs : List (List Int)) : List (List Int) := cs.filter fun c => decide (cm w c = d)
theorem mem_by {w : Wg} {c : List Int} {cs : List (List Int)} (h : c ∈ cs) : c ∈ byW w (cm w c) cs := List.mem_filter.mpr ⟨h, decide_eq_true rfl⟩
theorem by_sub {w : Wg} {d : Int} {cs : List (List Int)} : ∀ c ∈ byW w d cs, c ∈ cs := fun c h => (List.mem_filter.mp h).1
theorem by_le (w : Wg) (d : Int) (cs : List (List Int)) : (byW w d cs).length ≤ cs.length := List.length_filter_le _ _
theorem by_len (w : Wg) : ∀ (cs : List (List Int)), (byW w (-1) cs).length + (byW w 0 cs).length + (byW w 1 cs).length = cs.length
  | [] => rfl
  | c :: cs => by
    have h := by_len w cs
    unfold byW at h ⊢
    rcases cm_val w c with e | e | e <;> simp [e] <;> omega
/-! ### walks of lists -/
theorem each_enc {step : D → R (List D)} {p : List Int → Bool} : ∀ {cs : List (List Int)}, (∀ c ∈ cs, step (encC c) = .ok (if p c = true then [encC c] else [])) → eachR step (cs.map encC) = .ok ((cs.filter p).map encC)
  | [], _ => rfl
  | c :: cs, h => by
    rw [List.map_cons, eachR, h c (List.mem_cons_self ..), R.bind_ok, each_enc (p := p) fun d hd => h d (List.mem_cons_of_mem _ hd), R.bind_ok]
    by_cases hp : p c = true <;> simp [hp]
theorem each_flt {α : Type} {step : D → R (List D)} {g : α → D} {p : α → Bool} : ∀ {l : List α}, (∀ a ∈ l, step (g a) = .ok (if p a = true then [g a] else [])) → eachR step (l.map g) = .ok ((l.filter p).map g)
  | [], _ => rfl
  | a :: l, h => by
    rw [List.map_cons, eachR, h a (List.mem_cons_self ..), R.bind_ok, each_flt (p := p) fun b hb => h b (List.mem_cons_of_mem _ hb), R.bind_ok]
    by_cases hp : p a = true <;> simp [hp]
theorem each_map' {α : Type} {step : D → R (List D)} {g : α → D} {h : α → D} : ∀ {cs : List α}, (∀ c ∈ cs, step (g c) = .ok [h c]) → eachR step (cs.map g) = .ok (cs.map h)
  | [], _ => rfl
  | c :: cs, e => by
    rw [List.map_cons, eachR, e c (List.mem_cons_self ..), R.bind_ok, each_map' (h := h) fun d hd => e d (List.mem_cons_of_mem _ hd)]
    rfl
theorem each_none {step : D → R (List D)} : ∀ {xs : List D}, (∀ x ∈ xs, step x = .ok []) → eachR step xs = .ok []
  | [], _ => rfl
  | x :: xs, e => by
    rw [eachR, e x (List.mem_cons_self ..), R.bind_ok, each_none fun d hd => e d (List.mem_cons_of_mem _ hd)]
    rfl
theorem each_two {α β : Type} {step : D → R (List D)} {g : α → D} {h : α → D} {p : α → Bool} : ∀ {l : List α}, (∀ a ∈ l, step (g a) = .ok (if p a = true then [h a] else [])) → eachR step (l.map g) = .ok ((l.filter p).map h)
  | [], _ => rfl
  | a :: l, e => by
    rw [List.map_cons, eachR, e a (List.mem_cons_self ..), R.bind_ok, each_two (β := β) (p := p) fun b hb => e b (List.mem_cons_of_mem _ hb), R.bind_ok]
    by_cases hp : p a = true <;> simp [hp]
/-! ### the weighings that lead are weighings -/
def okW (m : Nat) (w : Wg) : Bool := (w.1.all fun i => decide (0 ≤ i ∧ i < (m : Int))) && ((w.2.all fun i => decide (0 ≤ i ∧ i < (m : Int))) && (decide (w.1.length ≤ 30) && decide (w.2.length ≤ 30)))
theorem okW_of {m : Nat} {w : Wg} (h : okW m w = true) : WgOk m w := by
  unfold WgOk
  simpa only [okW, Bool.and_eq_true, List.all_eq_true, decide_eq_true_eq] using h
theorem WgOk.swap {m : Nat} {w : Wg} (h : WgOk m w) : WgOk m (swapW w) := ⟨h.2.1, h.1, h.2.2.2, h.2.2.1⟩
theorem okWs2 : ((Ws 2).all (okW 2)) = true := by decide +kernel
theorem okWs3 : ((Ws 3).all (okW 3)) = true := by decide +kernel
theorem okWs4 : ((Ws 4).all (okW 4)) = true := by decide +kernel
theorem okWs5 : ((Ws 5).all (okW 5)) = true := by decide +kernel
theorem wsOk {m : Nat} (hm : Many m) {w : Wg} (hw : w ∈ Ws m) : WgOk m w := okW_of (by
  rcases hm with rfl | rfl | rfl | rfl
  · exact List.all_eq_true.mp okWs2 w hw
  · exact List.all_eq_true.mp okWs3 w hw
  · exact List.all_eq_true.mp okWs4 w hw
  · exact List.all_eq_true.mp okWs5 w hw)
theorem many25 {m : Nat} (hm : Many m) : 2 ≤ m ∧ m ≤ 5 := by rcases hm with rfl | rfl | rfl | rfl <;> decide
/-! ### shapes -/
theorem encW_sh (w : Wg) : sh 2 (encW w) := sh_tuple (n := 1) fun x hx => by
  simp only [List.mem_cons, List.not_mem_nil, or_false] at hx
  rcases hx with rfl | rfl
  · exact sh_tuple (sh_ints _)
  · exact sh_tuple (sh_ints _)
theorem listE_sh (cs : List (List Int)) : sh 2 (.list (cs.map encC)) := sh_list (n := 1) fun x hx => by
  obtain ⟨c, _, rfl⟩ := List.mem_map.mp hx
  exact encC_sh c
theorem listE_ne (cs : List (List Int)) : dNe (.list (cs.map encC)) (.list (cs.map encC)) = .ok (.bool false) := by
  rw [dNe_sh (listE_sh cs) (listE_sh cs), SeqAt.eqv_refl _ (listE_sh cs).1]
  rfl
theorem listE_ex (cs : List (List Int)) : exact (.list (cs.map encC)) = true := exacts_iff.mpr fun x hx => by
  obtain ⟨c, _, rfl⟩ := List.mem_map.mp hx
  exact encC_exact c
theorem listE_inj {a b : List (List Int)} : (PyData.list (a.map encC) = .list (b.map encC)) ↔ a = b := by
  rw [PyData.list.injEq]
  exact ⟨fun h => (List.map_inj_right fun x y e => encC_inj e).mp h, fun h => by rw [h]⟩
theorem dEq_nil {cs : List (List Int)} : dEq (.list (cs.map encC)) (.list []) = .ok (.bool (cs.isEmpty)) := by
  rw [dEq_sh (n := 2) (listE_sh cs) (sh_list (n := 1) (xs := []) (by simp))]
  cases cs <;> simp [PyData.eqv, PyData.eqvAll]
theorem dNe_nil {cs : List (List Int)} : dNe (.list (cs.map encC)) (.list []) = .ok (.bool (!cs.isEmpty)) := by
  rw [dNe_sh (n := 2) (listE_sh cs) (sh_list (n := 1) (xs := []) (by simp))]
  cases cs <;> simp [PyData.eqv, PyData.eqvAll]
theorem dNe_word (x : Str) (h : PyData.strOk x = true) : dNe (.str x) (.str x) = .ok (.bool false) := by
  rw [dNe_sh (n := 0) (m := 0) (sh_str (by rw [PyData.canLay0]; exact h)) (sh_str (by rw [PyData.canLay0]; exact h))]
  simp [PyData.eqv]
theorem rd_ints' (j : Nat) : rangeD 0 (j : Int) = (List.range j).map fun i : Nat => PyData.int i := by
  unfold rangeD
  rw [Int.sub_zero, Int.toNat_natCast]
  refine List.map_congr_left fun i _ => ?_
  simp
end W

set_option Elab.async false
set_option linter.all false
set_option maxRecDepth 100000
set_option maxHeartbeats 1000000
namespace W
open PySem PL
/-! ### is_pan -/
def riseD (m : Int) : Option Int → List D → Bool
  | _, [] => true
  | p, .int z :: r => decide (0 ≤ z) && decide (z ≤ m - 1) && (match p with | some q => decide (q < z) | none => true) && riseD m (some z) r
  | _, _ :: _ => false
def isPan (m : Int) : D → Bool
  | .tuple xs => !xs.isEmpty && riseD m none xs
  | _ => false
def ltO : Option Int → D → Bool
  | some q, .int z => decide (q < z)
  | _, _ => true
def riseD_cons (m : Int) (p : Option Int) (z : D) (r : List D) : Bool := amongB 0 (m - 1) z && ltO p z && (match z with | .int z => riseD m (some z) r | _ => false)
theorem riseD_eq (m : Int) (p : Option Int) (z : D) (r : List D) : riseD m p (z :: r) = riseD_cons m p z r := by
  cases z <;> cases p <;> simp [riseD, riseD_cons, amongB, ltO]
theorem pan_step (m : Int) (full : List D) (k : Nat) (z : D) (p : Option Int) (hz : tyD z ≠ none) (hp : (k = 0 ∧ p = none) ∨ (∃ q, p = some q ∧ 0 < k ∧ full[k - 1]? = some (.int q))) :
    g_is_pan_L1 [.val (.int m), .val (.tuple full), .val (.int k), .val z] =
      if (amongB 0 (m - 1) z && ltO p z) = true then .ok (.nx, [.val (.int m), .val (.tuple full), .val (.int k), .val z])
      else .ok (.rt (.bool false), [.val (.int m), .val (.tuple full), .val (.int k), .val z]) := by
  unfold g_is_pan_L1
  simp only [dIx_t0, dIx_t1, dIx_l0, dIx_l1, toItems, itemsOf, runF, runL, startE, endF, endL, R.bind_ok, R.bind_exc, R.bind_stuck, gSeq, gIf, gSet, gOwn, gRet, gRetL, gRetO, gDrop, gTgt, gT, gsC, gsN, gN, gFor, gApp, gExt, gFrz, gNil, gExc, eVar, eC, e1, e2, eA, aNil, aCons, eTup, eLst, eCall, lCall, listR, eChain, tV, tAndD, tOrD, tNotD, eAnd, eOr, eNot, eIf, eL, lDisp, lList, lRep, oNone, oSome, eSl, iSeq, iRng1, iRng2, iZipD, iEnumD, iRevD, lListRange, lLc, eSorted, eSortSet, eLenSet, eBor, tBor, tYesD, noE, toB, dCmp, dSub, dNeg, dInt, dLen, dIs, dIsNot, List.map_cons, List.map_nil, List.length_cons, List.length_nil, Nat.reduceAdd, Nat.reduceSub, Nat.reduceLeDiff, List.replicate, List.cons_append, List.nil_append, List.append_nil, List.getElem?_cons_zero, List.getElem?_cons_succ, List.set_cons_zero, List.set_cons_succ, if_true, if_false, reduceIte, Bool.not_true, Bool.not_false, Bool.false_eq_true, reduceCtorEq, F_is_among_eq z hz]
  cases z
  case int z =>
    rcases hp with ⟨rfl, rfl⟩ | ⟨q, rfl, hk, hq⟩
    · cases h : amongB 0 (m - 1) (.int z) <;> simp only [dIx_t0, dIx_t1, dIx_l0, dIx_l1, toItems, itemsOf, runF, runL, startE, endF, endL, R.bind_ok, R.bind_exc, R.bind_stuck, gSeq, gIf, gSet, gOwn, gRet, gRetL, gRetO, gDrop, gTgt, gT, gsC, gsN, gN, gFor, gApp, gExt, gFrz, gNil, gExc, eVar, eC, e1, e2, eA, aNil, aCons, eTup, eLst, eCall, lCall, listR, eChain, tV, tAndD, tOrD, tNotD, eAnd, eOr, eNot, eIf, eL, lDisp, lList, lRep, oNone, oSome, eSl, iSeq, iRng1, iRng2, iZipD, iEnumD, iRevD, lListRange, lLc, eSorted, eSortSet, eLenSet, eBor, tBor, tYesD, noE, toB, dCmp, dSub, dNeg, dInt, dLen, dIs, dIsNot, List.map_cons, List.map_nil, List.length_cons, List.length_nil, Nat.reduceAdd, Nat.reduceSub, Nat.reduceLeDiff, List.replicate, List.cons_append, List.nil_append, List.append_nil, List.getElem?_cons_zero, List.getElem?_cons_succ, List.set_cons_zero, List.set_cons_succ, if_true, if_false, reduceIte, Bool.not_true, Bool.not_false, Bool.false_eq_true, reduceCtorEq, Bool.and_true, Bool.true_and, Bool.false_and, Int.natCast_zero, Int.lt_irrefl, decide_false, decide_true, ltO]
      all_goals rfl
    · have e1 : (((k : Nat) : Int) - 1).toNat = k - 1 := by omega
      have e2 : decide ((0 : Int) < (k : Nat)) = true := decide_eq_true (by omega)
      rw [dIx_tup (i := ((k : Nat) : Int) - 1) (y := .int q) (by omega) (by rw [e1]; exact hq)]
      cases h : amongB 0 (m - 1) (.int z) <;> simp only [dIx_t0, dIx_t1, dIx_l0, dIx_l1, toItems, itemsOf, runF, runL, startE, endF, endL, R.bind_ok, R.bind_exc, R.bind_stuck, gSeq, gIf, gSet, gOwn, gRet, gRetL, gRetO, gDrop, gTgt, gT, gsC, gsN, gN, gFor, gApp, gExt, gFrz, gNil, gExc, eVar, eC, e1, e2, eA, aNil, aCons, eTup, eLst, eCall, lCall, listR, eChain, tV, tAndD, tOrD, tNotD, eAnd, eOr, eNot, eIf, eL, lDisp, lList, lRep, oNone, oSome, eSl, iSeq, iRng1, iRng2, iZipD, iEnumD, iRevD, lListRange, lLc, eSorted, eSortSet, eLenSet, eBor, tBor, tYesD, noE, toB, dCmp, dSub, dNeg, dInt, dLen, dIs, dIsNot, List.map_cons, List.map_nil, List.length_cons, List.length_nil, Nat.reduceAdd, Nat.reduceSub, Nat.reduceLeDiff, List.replicate, List.cons_append, List.nil_append, List.append_nil, List.getElem?_cons_zero, List.getElem?_cons_succ, List.set_cons_zero, List.set_cons_succ, if_true, if_false, reduceIte, Bool.not_true, Bool.not_false, Bool.false_eq_true, reduceCtorEq, e2, Bool.true_and, Bool.false_and, ltO]
      by_cases h2 : q < z
      · simp only [dIx_t0, dIx_t1, dIx_l0, dIx_l1, toItems, itemsOf, runF, runL, startE, endF, endL, R.bind_ok, R.bind_exc, R.bind_stuck, gSeq, gIf, gSet, gOwn, gRet, gRetL, gRetO, gDrop, gTgt, gT, gsC, gsN, gN, gFor, gApp, gExt, gFrz, gNil, gExc, eVar, eC, e1, e2, eA, aNil, aCons, eTup, eLst, eCall, lCall, listR, eChain, tV, tAndD, tOrD, tNotD, eAnd, eOr, eNot, eIf, eL, lDisp, lList, lRep, oNone, oSome, eSl, iSeq, iRng1, iRng2, iZipD, iEnumD, iRevD, lListRange, lLc, eSorted, eSortSet, eLenSet, eBor, tBor, tYesD, noE, toB, dCmp, dSub, dNeg, dInt, dLen, dIs, dIsNot, List.map_cons, List.map_nil, List.length_cons, List.length_nil, Nat.reduceAdd, Nat.reduceSub, Nat.reduceLeDiff, List.replicate, List.cons_append, List.nil_append, List.append_nil, List.getElem?_cons_zero, List.getElem?_cons_succ, List.set_cons_zero, List.set_cons_succ, if_true, if_false, reduceIte, Bool.not_true, Bool.not_false, Bool.false_eq_true, reduceCtorEq, h2, decide_true, show ¬ z ≤ q by omega, decide_false]
      · simp only [dIx_t0, dIx_t1, dIx_l0, dIx_l1, toItems, itemsOf, runF, runL, startE, endF, endL, R.bind_ok, R.bind_exc, R.bind_stuck, gSeq, gIf, gSet, gOwn, gRet, gRetL, gRetO, gDrop, gTgt, gT, gsC, gsN, gN, gFor, gApp, gExt, gFrz, gNil, gExc, eVar, eC, e1, e2, eA, aNil, aCons, eTup, eLst, eCall, lCall, listR, eChain, tV, tAndD, tOrD, tNotD, eAnd, eOr, eNot, eIf, eL, lDisp, lList, lRep, oNone, oSome, eSl, iSeq, iRng1, iRng2, iZipD, iEnumD, iRevD, lListRange, lLc, eSorted, eSortSet, eLenSet, eBor, tBor, tYesD, noE, toB, dCmp, dSub, dNeg, dInt, dLen, dIs, dIsNot, List.map_cons, List.map_nil, List.length_cons, List.length_nil, Nat.reduceAdd, Nat.reduceSub, Nat.reduceLeDiff, List.replicate, List.cons_append, List.nil_append, List.append_nil, List.getElem?_cons_zero, List.getElem?_cons_succ, List.set_cons_zero, List.set_cons_succ, if_true, if_false, reduceIte, Bool.not_true, Bool.not_false, Bool.false_eq_true, reduceCtorEq, h2, decide_false, show z ≤ q by omega, decide_true]
  all_goals simp only [dIx_t0, dIx_t1, dIx_l0, dIx_l1, toItems, itemsOf, runF, runL, startE, endF, endL, R.bind_ok, R.bind_exc, R.bind_stuck, gSeq, gIf, gSet, gOwn, gRet, gRetL, gRetO, gDrop, gTgt, gT, gsC, gsN, gN, gFor, gApp, gExt, gFrz, gNil, gExc, eVar, eC, e1, e2, eA, aNil, aCons, eTup, eLst, eCall, lCall, listR, eChain, tV, tAndD, tOrD, tNotD, eAnd, eOr, eNot, eIf, eL, lDisp, lList, lRep, oNone, oSome, eSl, iSeq, iRng1, iRng2, iZipD, iEnumD, iRevD, lListRange, lLc, eSorted, eSortSet, eLenSet, eBor, tBor, tYesD, noE, toB, dCmp, dSub, dNeg, dInt, dLen, dIs, dIsNot, List.map_cons, List.map_nil, List.length_cons, List.length_nil, Nat.reduceAdd, Nat.reduceSub, Nat.reduceLeDiff, List.replicate, List.cons_append, List.nil_append, List.append_nil, List.getElem?_cons_zero, List.getElem?_cons_succ, List.set_cons_zero, List.set_cons_succ, if_true, if_false, reduceIte, Bool.not_true, Bool.not_false, Bool.false_eq_true, reduceCtorEq, amongB, Bool.false_and]
theorem pan_loop (m : Int) (full : List D) : ∀ (suf : List D) (k : Nat) (p : Option Int) (s2 s3 : PL.Slot noObj), full.drop k = suf → (∀ x ∈ suf, tyD x ≠ none) → ((k = 0 ∧ p = none) ∨ (∃ q, p = some q ∧ 0 < k ∧ full[k - 1]? = some (.int q))) →
    ∃ s2' s3', loopF (gT 2 (gsC (gN 2) (gsC (gN 3) gsN))) g_is_pan_L1 (enumFrom k suf) [.val (.int m), .val (.tuple full), s2, s3] =
      if riseD m p suf = true then .ok (.nx, [.val (.int m), .val (.tuple full), s2', s3']) else .ok (.rt (.bool false), [.val (.int m), .val (.tuple full), s2', s3'])
  | [], k, p, s2, s3, _, _, _ => ⟨s2, s3, by simp only [dIx_t0, dIx_t1, dIx_l0, dIx_l1, toItems, itemsOf, runF, runL, startE, endF, endL, R.bind_ok, R.bind_exc, R.bind_stuck, gSeq, gIf, gSet, gOwn, gRet, gRetL, gRetO, gDrop, gTgt, gT, gsC, gsN, gN, gFor, gApp, gExt, gFrz, gNil, gExc, eVar, eC, e1, e2, eA, aNil, aCons, eTup, eLst, eCall, lCall, listR, eChain, tV, tAndD, tOrD, tNotD, eAnd, eOr, eNot, eIf, eL, lDisp, lList, lRep, oNone, oSome, eSl, iSeq, iRng1, iRng2, iZipD, iEnumD, iRevD, lListRange, lLc, eSorted, eSortSet, eLenSet, eBor, tBor, tYesD, noE, toB, dCmp, dSub, dNeg, dInt, dLen, dIs, dIsNot, List.map_cons, List.map_nil, List.length_cons, List.length_nil, Nat.reduceAdd, Nat.reduceSub, Nat.reduceLeDiff, List.replicate, List.cons_append, List.nil_append, List.append_nil, List.getElem?_cons_zero, List.getElem?_cons_succ, List.set_cons_zero, List.set_cons_succ, if_true, if_false, reduceIte, Bool.not_true, Bool.not_false, Bool.false_eq_true, reduceCtorEq, riseD, loopF, enumFrom]⟩
  | z :: suf, k, p, s2, s3, hf, ht, hp => by
    have hz : tyD z ≠ none := ht z (List.mem_cons_self ..)
    rw [riseD_eq]
    simp only [dIx_t0, dIx_t1, dIx_l0, dIx_l1, toItems, itemsOf, runF, runL, startE, endF, endL, R.bind_ok, R.bind_exc, R.bind_stuck, gSeq, gIf, gSet, gOwn, gRet, gRetL, gRetO, gDrop, gTgt, gT, gsC, gsN, gN, gFor, gApp, gExt, gFrz, gNil, gExc, eVar, eC, e1, e2, eA, aNil, aCons, eTup, eLst, eCall, lCall, listR, eChain, tV, tAndD, tOrD, tNotD, eAnd, eOr, eNot, eIf, eL, lDisp, lList, lRep, oNone, oSome, eSl, iSeq, iRng1, iRng2, iZipD, iEnumD, iRevD, lListRange, lLc, eSorted, eSortSet, eLenSet, eBor, tBor, tYesD, noE, toB, dCmp, dSub, dNeg, dInt, dLen, dIs, dIsNot, List.map_cons, List.map_nil, List.length_cons, List.length_nil, Nat.reduceAdd, Nat.reduceSub, Nat.reduceLeDiff, List.replicate, List.cons_append, List.nil_append, List.append_nil, List.getElem?_cons_zero, List.getElem?_cons_succ, List.set_cons_zero, List.set_cons_succ, if_true, if_false, reduceIte, Bool.not_true, Bool.not_false, Bool.false_eq_true, reduceCtorEq, loopF, enumFrom, pan_step m full k z p hz hp]
    unfold riseD_cons
    by_cases hc : (amongB 0 (m - 1) z && ltO p z) = true
    · rw [hc]
      simp only [dIx_t0, dIx_t1, dIx_l0, dIx_l1, toItems, itemsOf, runF, runL, startE, endF, endL, R.bind_ok, R.bind_exc, R.bind_stuck, gSeq, gIf, gSet, gOwn, gRet, gRetL, gRetO, gDrop, gTgt, gT, gsC, gsN, gN, gFor, gApp, gExt, gFrz, gNil, gExc, eVar, eC, e1, e2, eA, aNil, aCons, eTup, eLst, eCall, lCall, listR, eChain, tV, tAndD, tOrD, tNotD, eAnd, eOr, eNot, eIf, eL, lDisp, lList, lRep, oNone, oSome, eSl, iSeq, iRng1, iRng2, iZipD, iEnumD, iRevD, lListRange, lLc, eSorted, eSortSet, eLenSet, eBor, tBor, tYesD, noE, toB, dCmp, dSub, dNeg, dInt, dLen, dIs, dIsNot, List.map_cons, List.map_nil, List.length_cons, List.length_nil, Nat.reduceAdd, Nat.reduceSub, Nat.reduceLeDiff, List.replicate, List.cons_append, List.nil_append, List.append_nil, List.getElem?_cons_zero, List.getElem?_cons_succ, List.set_cons_zero, List.set_cons_succ, if_true, if_false, reduceIte, Bool.not_true, Bool.not_false, Bool.false_eq_true, reduceCtorEq, Bool.true_and]
      cases z
      case int z =>
        have hk : full[k]? = some (.int z) := by
          have := congrArg (fun l : List D => l[0]?) hf
          simpa using this
        have hd : full.drop (k + 1) = suf := by
          have := congrArg (List.drop 1) hf
          simpa [List.drop_drop, Nat.add_comm] using this
        exact pan_loop m full suf (k + 1) (some z) _ _ hd (fun x hx => ht x (List.mem_cons_of_mem _ hx)) (.inr ⟨z, rfl, by omega, by simpa using hk⟩)
      all_goals simp [amongB] at hc
    · rw [Bool.not_eq_true] at hc
      rw [hc]
      simp only [dIx_t0, dIx_t1, dIx_l0, dIx_l1, toItems, itemsOf, runF, runL, startE, endF, endL, R.bind_ok, R.bind_exc, R.bind_stuck, gSeq, gIf, gSet, gOwn, gRet, gRetL, gRetO, gDrop, gTgt, gT, gsC, gsN, gN, gFor, gApp, gExt, gFrz, gNil, gExc, eVar, eC, e1, e2, eA, aNil, aCons, eTup, eLst, eCall, lCall, listR, eChain, tV, tAndD, tOrD, tNotD, eAnd, eOr, eNot, eIf, eL, lDisp, lList, lRep, oNone, oSome, eSl, iSeq, iRng1, iRng2, iZipD, iEnumD, iRevD, lListRange, lLc, eSorted, eSortSet, eLenSet, eBor, tBor, tYesD, noE, toB, dCmp, dSub, dNeg, dInt, dLen, dIs, dIsNot, List.map_cons, List.map_nil, List.length_cons, List.length_nil, Nat.reduceAdd, Nat.reduceSub, Nat.reduceLeDiff, List.replicate, List.cons_append, List.nil_append, List.append_nil, List.getElem?_cons_zero, List.getElem?_cons_succ, List.set_cons_zero, List.set_cons_succ, if_true, if_false, reduceIte, Bool.not_true, Bool.not_false, Bool.false_eq_true, reduceCtorEq, Bool.false_and]
      exact ⟨_, _, rfl⟩
theorem F_is_pan_eq (m : Int) (t : D) (h : sh 60 t ∨ t = .dict []) : F_is_pan [.int m, t] = .ok (.bool (isPan m t)) := by
  unfold F_is_pan g_is_pan
  have ht : tyD t ≠ none := by
    rcases h with h | rfl
    · exact ty_of_sh h
    · simp [tyD]
  simp only [dIx_t0, dIx_t1, dIx_l0, dIx_l1, toItems, itemsOf, runF, runL, startE, endF, endL, R.bind_ok, R.bind_exc, R.bind_stuck, gSeq, gIf, gSet, gOwn, gRet, gRetL, gRetO, gDrop, gTgt, gT, gsC, gsN, gN, gFor, gApp, gExt, gFrz, gNil, gExc, eVar, eC, e1, e2, eA, aNil, aCons, eTup, eLst, eCall, lCall, listR, eChain, tV, tAndD, tOrD, tNotD, eAnd, eOr, eNot, eIf, eL, lDisp, lList, lRep, oNone, oSome, eSl, iSeq, iRng1, iRng2, iZipD, iEnumD, iRevD, lListRange, lLc, eSorted, eSortSet, eLenSet, eBor, tBor, tYesD, noE, toB, dCmp, dSub, dNeg, dInt, dLen, dIs, dIsNot, List.map_cons, List.map_nil, List.length_cons, List.length_nil, Nat.reduceAdd, Nat.reduceSub, Nat.reduceLeDiff, List.replicate, List.cons_append, List.nil_append, List.append_nil, List.getElem?_cons_zero, List.getElem?_cons_succ, List.set_cons_zero, List.set_cons_succ, if_true, if_false, reduceIte, Bool.not_true, Bool.not_false, Bool.false_eq_true, reduceCtorEq, isi_tuple t ht]
  cases t
  case tuple xs =>
    have hs : sh 60 (.tuple xs) := h.resolve_right (by simp)
    simp only [dIx_t0, dIx_t1, dIx_l0, dIx_l1, toItems, itemsOf, runF, runL, startE, endF, endL, R.bind_ok, R.bind_exc, R.bind_stuck, gSeq, gIf, gSet, gOwn, gRet, gRetL, gRetO, gDrop, gTgt, gT, gsC, gsN, gN, gFor, gApp, gExt, gFrz, gNil, gExc, eVar, eC, e1, e2, eA, aNil, aCons, eTup, eLst, eCall, lCall, listR, eChain, tV, tAndD, tOrD, tNotD, eAnd, eOr, eNot, eIf, eL, lDisp, lList, lRep, oNone, oSome, eSl, iSeq, iRng1, iRng2, iZipD, iEnumD, iRevD, lListRange, lLc, eSorted, eSortSet, eLenSet, eBor, tBor, tYesD, noE, toB, dCmp, dSub, dNeg, dInt, dLen, dIs, dIsNot, List.map_cons, List.map_nil, List.length_cons, List.length_nil, Nat.reduceAdd, Nat.reduceSub, Nat.reduceLeDiff, List.replicate, List.cons_append, List.nil_append, List.append_nil, List.getElem?_cons_zero, List.getElem?_cons_succ, List.set_cons_zero, List.set_cons_succ, if_true, if_false, reduceIte, Bool.not_true, Bool.not_false, Bool.false_eq_true, reduceCtorEq, dEq_sh hs (sh_tuple (n := 1) (xs := []) (by simp))]
    cases xs with
    | nil => simp only [dIx_t0, dIx_t1, dIx_l0, dIx_l1, toItems, itemsOf, runF, runL, startE, endF, endL, R.bind_ok, R.bind_exc, R.bind_stuck, gSeq, gIf, gSet, gOwn, gRet, gRetL, gRetO, gDrop, gTgt, gT, gsC, gsN, gN, gFor, gApp, gExt, gFrz, gNil, gExc, eVar, eC, e1, e2, eA, aNil, aCons, eTup, eLst, eCall, lCall, listR, eChain, tV, tAndD, tOrD, tNotD, eAnd, eOr, eNot, eIf, eL, lDisp, lList, lRep, oNone, oSome, eSl, iSeq, iRng1, iRng2, iZipD, iEnumD, iRevD, lListRange, lLc, eSorted, eSortSet, eLenSet, eBor, tBor, tYesD, noE, toB, dCmp, dSub, dNeg, dInt, dLen, dIs, dIsNot, List.map_cons, List.map_nil, List.length_cons, List.length_nil, Nat.reduceAdd, Nat.reduceSub, Nat.reduceLeDiff, List.replicate, List.cons_append, List.nil_append, List.append_nil, List.getElem?_cons_zero, List.getElem?_cons_succ, List.set_cons_zero, List.set_cons_succ, if_true, if_false, reduceIte, Bool.not_true, Bool.not_false, Bool.false_eq_true, reduceCtorEq, PyData.eqv, PyData.eqvAll, isPan, List.isEmpty_nil, Bool.false_and]
    | cons x xs =>
      simp only [dIx_t0, dIx_t1, dIx_l0, dIx_l1, toItems, itemsOf, runF, runL, startE, endF, endL, R.bind_ok, R.bind_exc, R.bind_stuck, gSeq, gIf, gSet, gOwn, gRet, gRetL, gRetO, gDrop, gTgt, gT, gsC, gsN, gN, gFor, gApp, gExt, gFrz, gNil, gExc, eVar, eC, e1, e2, eA, aNil, aCons, eTup, eLst, eCall, lCall, listR, eChain, tV, tAndD, tOrD, tNotD, eAnd, eOr, eNot, eIf, eL, lDisp, lList, lRep, oNone, oSome, eSl, iSeq, iRng1, iRng2, iZipD, iEnumD, iRevD, lListRange, lLc, eSorted, eSortSet, eLenSet, eBor, tBor, tYesD, noE, toB, dCmp, dSub, dNeg, dInt, dLen, dIs, dIsNot, List.map_cons, List.map_nil, List.length_cons, List.length_nil, Nat.reduceAdd, Nat.reduceSub, Nat.reduceLeDiff, List.replicate, List.cons_append, List.nil_append, List.append_nil, List.getElem?_cons_zero, List.getElem?_cons_succ, List.set_cons_zero, List.set_cons_succ, if_true, if_false, reduceIte, Bool.not_true, Bool.not_false, Bool.false_eq_true, reduceCtorEq, PyData.eqv, PyData.eqvAll, isPan, List.isEmpty_cons, Bool.true_and]
      obtain ⟨s2, s3, e⟩ := pan_loop m (x :: xs) (x :: xs) 0 none .no .no rfl (fun y hy => ty_of_sh (sh_of_tuple hs y hy)) (.inl ⟨rfl, rfl⟩)
      rw [e]
      cases riseD m none (x :: xs) <;> simp only [dIx_t0, dIx_t1, dIx_l0, dIx_l1, toItems, itemsOf, runF, runL, startE, endF, endL, R.bind_ok, R.bind_exc, R.bind_stuck, gSeq, gIf, gSet, gOwn, gRet, gRetL, gRetO, gDrop, gTgt, gT, gsC, gsN, gN, gFor, gApp, gExt, gFrz, gNil, gExc, eVar, eC, e1, e2, eA, aNil, aCons, eTup, eLst, eCall, lCall, listR, eChain, tV, tAndD, tOrD, tNotD, eAnd, eOr, eNot, eIf, eL, lDisp, lList, lRep, oNone, oSome, eSl, iSeq, iRng1, iRng2, iZipD, iEnumD, iRevD, lListRange, lLc, eSorted, eSortSet, eLenSet, eBor, tBor, tYesD, noE, toB, dCmp, dSub, dNeg, dInt, dLen, dIs, dIsNot, List.map_cons, List.map_nil, List.length_cons, List.length_nil, Nat.reduceAdd, Nat.reduceSub, Nat.reduceLeDiff, List.replicate, List.cons_append, List.nil_append, List.append_nil, List.getElem?_cons_zero, List.getElem?_cons_succ, List.set_cons_zero, List.set_cons_succ, if_true, if_false, reduceIte, Bool.not_true, Bool.not_false, Bool.false_eq_true, reduceCtorEq]
  all_goals simp only [dIx_t0, dIx_t1, dIx_l0, dIx_l1, toItems, itemsOf, runF, runL, startE, endF, endL, R.bind_ok, R.bind_exc, R.bind_stuck, gSeq, gIf, gSet, gOwn, gRet, gRetL, gRetO, gDrop, gTgt, gT, gsC, gsN, gN, gFor, gApp, gExt, gFrz, gNil, gExc, eVar, eC, e1, e2, eA, aNil, aCons, eTup, eLst, eCall, lCall, listR, eChain, tV, tAndD, tOrD, tNotD, eAnd, eOr, eNot, eIf, eL, lDisp, lList, lRep, oNone, oSome, eSl, iSeq, iRng1, iRng2, iZipD, iEnumD, iRevD, lListRange, lLc, eSorted, eSortSet, eLenSet, eBor, tBor, tYesD, noE, toB, dCmp, dSub, dNeg, dInt, dLen, dIs, dIsNot, List.map_cons, List.map_nil, List.length_cons, List.length_nil, Nat.reduceAdd, Nat.reduceSub, Nat.reduceLeDiff, List.replicate, List.cons_append, List.nil_append, List.append_nil, List.getElem?_cons_zero, List.getElem?_cons_succ, List.set_cons_zero, List.set_cons_succ, if_true, if_false, reduceIte, Bool.not_true, Bool.not_false, Bool.false_eq_true, reduceCtorEq, isPan]
/-! ### is_weighing -/
def apartB (xs ys : List D) : Bool := xs.all fun z => !ys.any fun y => PyData.eqv y z
def isW (m : Int) : D → Bool
  | .tuple [a, b] => isPan m a && (isPan m b && (match a, b with
    | .tuple xs, .tuple ys => decide (xs.length = ys.length) && apartB xs ys
    | _, _ => false))
  | _ => false
theorem isPan_tuple {m : Int} {a : D} (h : isPan m a = true) : ∃ xs, a = .tuple xs := by
  cases a <;> simp [isPan] at h
  exact ⟨_, rfl⟩
theorem filter_nil_all {α : Type} (p : α → Bool) (xs : List α) : (xs.filter p = []) ↔ (xs.all fun z => !p z) = true := by
  simp [List.filter_eq_nil_iff, List.all_eq_true]
theorem c_weigh (m : Int) (xs ys : List D) (t : D) (ht : t = .tuple [.tuple xs, .tuple ys]) (hx : ∀ x ∈ xs, sh 59 x) (hy : ∀ x ∈ ys, sh 59 x) (hl : xs.length ≤ 100000) :
    c_is_weighing_1 [.val (.int m), .val t, .no] = .ok (xs.filter fun z => ys.any fun y => PyData.eqv y z) := by
  subst ht
  unfold c_is_weighing_1
  simp only [dIx_t0, dIx_t1, dIx_l0, dIx_l1, toItems, itemsOf, runF, runL, startE, endF, endL, R.bind_ok, R.bind_exc, R.bind_stuck, gSeq, gIf, gSet, gOwn, gRet, gRetL, gRetO, gDrop, gTgt, gT, gsC, gsN, gN, gFor, gApp, gExt, gFrz, gNil, gExc, eVar, eC, e1, e2, eA, aNil, aCons, eTup, eLst, eCall, lCall, listR, eChain, tV, tAndD, tOrD, tNotD, eAnd, eOr, eNot, eIf, eL, lDisp, lList, lRep, oNone, oSome, eSl, iSeq, iRng1, iRng2, iZipD, iEnumD, iRevD, lListRange, lLc, eSorted, eSortSet, eLenSet, eBor, tBor, tYesD, noE, toB, dCmp, dSub, dNeg, dInt, dLen, dIs, dIsNot, List.map_cons, List.map_nil, List.length_cons, List.length_nil, Nat.reduceAdd, Nat.reduceSub, Nat.reduceLeDiff, List.replicate, List.cons_append, List.nil_append, List.append_nil, List.getElem?_cons_zero, List.getElem?_cons_succ, List.set_cons_zero, List.set_cons_succ, if_true, if_false, reduceIte, Bool.not_true, Bool.not_false, Bool.false_eq_true, reduceCtorEq]
  rw [if_pos ⟨hl, rfl⟩]
  rw [eachR_filter (p := fun z => ys.any fun y => PyData.eqv y z) (f := id)]
  · simp only [dIx_t0, dIx_t1, dIx_l0, dIx_l1, toItems, itemsOf, runF, runL, startE, endF, endL, R.bind_ok, R.bind_exc, R.bind_stuck, gSeq, gIf, gSet, gOwn, gRet, gRetL, gRetO, gDrop, gTgt, gT, gsC, gsN, gN, gFor, gApp, gExt, gFrz, gNil, gExc, eVar, eC, e1, e2, eA, aNil, aCons, eTup, eLst, eCall, lCall, listR, eChain, tV, tAndD, tOrD, tNotD, eAnd, eOr, eNot, eIf, eL, lDisp, lList, lRep, oNone, oSome, eSl, iSeq, iRng1, iRng2, iZipD, iEnumD, iRevD, lListRange, lLc, eSorted, eSortSet, eLenSet, eBor, tBor, tYesD, noE, toB, dCmp, dSub, dNeg, dInt, dLen, dIs, dIsNot, List.map_cons, List.map_nil, List.length_cons, List.length_nil, Nat.reduceAdd, Nat.reduceSub, Nat.reduceLeDiff, List.replicate, List.cons_append, List.nil_append, List.append_nil, List.getElem?_cons_zero, List.getElem?_cons_succ, List.set_cons_zero, List.set_cons_succ, if_true, if_false, reduceIte, Bool.not_true, Bool.not_false, Bool.false_eq_true, reduceCtorEq, List.map_id]
  · intro x h
    unfold lcStep wipeE
    simp only [dIx_t0, dIx_t1, dIx_l0, dIx_l1, toItems, itemsOf, runF, runL, startE, endF, endL, R.bind_ok, R.bind_exc, R.bind_stuck, gSeq, gIf, gSet, gOwn, gRet, gRetL, gRetO, gDrop, gTgt, gT, gsC, gsN, gN, gFor, gApp, gExt, gFrz, gNil, gExc, eVar, eC, e1, e2, eA, aNil, aCons, eTup, eLst, eCall, lCall, listR, eChain, tV, tAndD, tOrD, tNotD, eAnd, eOr, eNot, eIf, eL, lDisp, lList, lRep, oNone, oSome, eSl, iSeq, iRng1, iRng2, iZipD, iEnumD, iRevD, lListRange, lLc, eSorted, eSortSet, eLenSet, eBor, tBor, tYesD, noE, toB, dCmp, dSub, dNeg, dInt, dLen, dIs, dIsNot, List.map_cons, List.map_nil, List.length_cons, List.length_nil, Nat.reduceAdd, Nat.reduceSub, Nat.reduceLeDiff, List.replicate, List.cons_append, List.nil_append, List.append_nil, List.getElem?_cons_zero, List.getElem?_cons_succ, List.set_cons_zero, List.set_cons_succ, if_true, if_false, reduceIte, Bool.not_true, Bool.not_false, Bool.false_eq_true, reduceCtorEq, wipeE, dIn]
    have e : (SeqAt.shaped x && SeqAt.shaped (.tuple ys)) = true := by rw [shaped_sh (hx x h), shaped_sh (sh_tuple hy)]; rfl
    rw [if_pos e]
    simp only [dIx_t0, dIx_t1, dIx_l0, dIx_l1, toItems, itemsOf, runF, runL, startE, endF, endL, R.bind_ok, R.bind_exc, R.bind_stuck, gSeq, gIf, gSet, gOwn, gRet, gRetL, gRetO, gDrop, gTgt, gT, gsC, gsN, gN, gFor, gApp, gExt, gFrz, gNil, gExc, eVar, eC, e1, e2, eA, aNil, aCons, eTup, eLst, eCall, lCall, listR, eChain, tV, tAndD, tOrD, tNotD, eAnd, eOr, eNot, eIf, eL, lDisp, lList, lRep, oNone, oSome, eSl, iSeq, iRng1, iRng2, iZipD, iEnumD, iRevD, lListRange, lLc, eSorted, eSortSet, eLenSet, eBor, tBor, tYesD, noE, toB, dCmp, dSub, dNeg, dInt, dLen, dIs, dIsNot, List.map_cons, List.map_nil, List.length_cons, List.length_nil, Nat.reduceAdd, Nat.reduceSub, Nat.reduceLeDiff, List.replicate, List.cons_append, List.nil_append, List.append_nil, List.getElem?_cons_zero, List.getElem?_cons_succ, List.set_cons_zero, List.set_cons_succ, if_true, if_false, reduceIte, Bool.not_true, Bool.not_false, Bool.false_eq_true, reduceCtorEq, id]
    cases ys.any fun z => PyData.eqv z x <;> rfl
theorem F_is_weighing_eq (m : Int) (t : D) (h : (sh 61 t ∧ ∀ xs, t = .tuple xs → ∀ ys, .tuple ys ∈ xs → ys.length ≤ 100000) ∨ t = .dict []) : F_is_weighing [.int m, t] = .ok (.bool (isW m t)) := by
  unfold F_is_weighing g_is_weighing
  have ht : tyD t ≠ none := by
    rcases h with ⟨h, _⟩ | rfl
    · exact ty_of_sh h
    · simp [tyD]
  simp only [dIx_t0, dIx_t1, dIx_l0, dIx_l1, toItems, itemsOf, runF, runL, startE, endF, endL, R.bind_ok, R.bind_exc, R.bind_stuck, gSeq, gIf, gSet, gOwn, gRet, gRetL, gRetO, gDrop, gTgt, gT, gsC, gsN, gN, gFor, gApp, gExt, gFrz, gNil, gExc, eVar, eC, e1, e2, eA, aNil, aCons, eTup, eLst, eCall, lCall, listR, eChain, tV, tAndD, tOrD, tNotD, eAnd, eOr, eNot, eIf, eL, lDisp, lList, lRep, oNone, oSome, eSl, iSeq, iRng1, iRng2, iZipD, iEnumD, iRevD, lListRange, lLc, eSorted, eSortSet, eLenSet, eBor, tBor, tYesD, noE, toB, dCmp, dSub, dNeg, dInt, dLen, dIs, dIsNot, List.map_cons, List.map_nil, List.length_cons, List.length_nil, Nat.reduceAdd, Nat.reduceSub, Nat.reduceLeDiff, List.replicate, List.cons_append, List.nil_append, List.append_nil, List.getElem?_cons_zero, List.getElem?_cons_succ, List.set_cons_zero, List.set_cons_succ, if_true, if_false, reduceIte, Bool.not_true, Bool.not_false, Bool.false_eq_true, reduceCtorEq, isi_tuple t ht]
  cases t
  case tuple us =>
    obtain ⟨hs, hl⟩ := h.resolve_right (by simp)
    have hsu := sh_of_tuple hs
    simp only [dIx_t0, dIx_t1, dIx_l0, dIx_l1, toItems, itemsOf, runF, runL, startE, endF, endL, R.bind_ok, R.bind_exc, R.bind_stuck, gSeq, gIf, gSet, gOwn, gRet, gRetL, gRetO, gDrop, gTgt, gT, gsC, gsN, gN, gFor, gApp, gExt, gFrz, gNil, gExc, eVar, eC, e1, e2, eA, aNil, aCons, eTup, eLst, eCall, lCall, listR, eChain, tV, tAndD, tOrD, tNotD, eAnd, eOr, eNot, eIf, eL, lDisp, lList, lRep, oNone, oSome, eSl, iSeq, iRng1, iRng2, iZipD, iEnumD, iRevD, lListRange, lLc, eSorted, eSortSet, eLenSet, eBor, tBor, tYesD, noE, toB, dCmp, dSub, dNeg, dInt, dLen, dIs, dIsNot, List.map_cons, List.map_nil, List.length_cons, List.length_nil, Nat.reduceAdd, Nat.reduceSub, Nat.reduceLeDiff, List.replicate, List.cons_append, List.nil_append, List.append_nil, List.getElem?_cons_zero, List.getElem?_cons_succ, List.set_cons_zero, List.set_cons_succ, if_true, if_false, reduceIte, Bool.not_true, Bool.not_false, Bool.false_eq_true, reduceCtorEq, dNe_int]
    match us, hs, hl, hsu with
    | [], _, _, _ => simp only [dIx_t0, dIx_t1, dIx_l0, dIx_l1, toItems, itemsOf, runF, runL, startE, endF, endL, R.bind_ok, R.bind_exc, R.bind_stuck, gSeq, gIf, gSet, gOwn, gRet, gRetL, gRetO, gDrop, gTgt, gT, gsC, gsN, gN, gFor, gApp, gExt, gFrz, gNil, gExc, eVar, eC, e1, e2, eA, aNil, aCons, eTup, eLst, eCall, lCall, listR, eChain, tV, tAndD, tOrD, tNotD, eAnd, eOr, eNot, eIf, eL, lDisp, lList, lRep, oNone, oSome, eSl, iSeq, iRng1, iRng2, iZipD, iEnumD, iRevD, lListRange, lLc, eSorted, eSortSet, eLenSet, eBor, tBor, tYesD, noE, toB, dCmp, dSub, dNeg, dInt, dLen, dIs, dIsNot, List.map_cons, List.map_nil, List.length_cons, List.length_nil, Nat.reduceAdd, Nat.reduceSub, Nat.reduceLeDiff, List.replicate, List.cons_append, List.nil_append, List.append_nil, List.getElem?_cons_zero, List.getElem?_cons_succ, List.set_cons_zero, List.set_cons_succ, if_true, if_false, reduceIte, Bool.not_true, Bool.not_false, Bool.false_eq_true, reduceCtorEq, isW]; rfl
    | [_], _, _, _ => simp only [dIx_t0, dIx_t1, dIx_l0, dIx_l1, toItems, itemsOf, runF, runL, startE, endF, endL, R.bind_ok, R.bind_exc, R.bind_stuck, gSeq, gIf, gSet, gOwn, gRet, gRetL, gRetO, gDrop, gTgt, gT, gsC, gsN, gN, gFor, gApp, gExt, gFrz, gNil, gExc, eVar, eC, e1, e2, eA, aNil, aCons, eTup, eLst, eCall, lCall, listR, eChain, tV, tAndD, tOrD, tNotD, eAnd, eOr, eNot, eIf, eL, lDisp, lList, lRep, oNone, oSome, eSl, iSeq, iRng1, iRng2, iZipD, iEnumD, iRevD, lListRange, lLc, eSorted, eSortSet, eLenSet, eBor, tBor, tYesD, noE, toB, dCmp, dSub, dNeg, dInt, dLen, dIs, dIsNot, List.map_cons, List.map_nil, List.length_cons, List.length_nil, Nat.reduceAdd, Nat.reduceSub, Nat.reduceLeDiff, List.replicate, List.cons_append, List.nil_append, List.append_nil, List.getElem?_cons_zero, List.getElem?_cons_succ, List.set_cons_zero, List.set_cons_succ, if_true, if_false, reduceIte, Bool.not_true, Bool.not_false, Bool.false_eq_true, reduceCtorEq, isW]; rfl
    | _ :: _ :: _ :: r, _, _, _ =>
      have e : decide ((((r.length + 1 + 1 + 1 : Nat)) : Int) = 2) = false := decide_eq_false (by omega)
      simp only [dIx_t0, dIx_t1, dIx_l0, dIx_l1, toItems, itemsOf, runF, runL, startE, endF, endL, R.bind_ok, R.bind_exc, R.bind_stuck, gSeq, gIf, gSet, gOwn, gRet, gRetL, gRetO, gDrop, gTgt, gT, gsC, gsN, gN, gFor, gApp, gExt, gFrz, gNil, gExc, eVar, eC, e1, e2, eA, aNil, aCons, eTup, eLst, eCall, lCall, listR, eChain, tV, tAndD, tOrD, tNotD, eAnd, eOr, eNot, eIf, eL, lDisp, lList, lRep, oNone, oSome, eSl, iSeq, iRng1, iRng2, iZipD, iEnumD, iRevD, lListRange, lLc, eSorted, eSortSet, eLenSet, eBor, tBor, tYesD, noE, toB, dCmp, dSub, dNeg, dInt, dLen, dIs, dIsNot, List.map_cons, List.map_nil, List.length_cons, List.length_nil, Nat.reduceAdd, Nat.reduceSub, Nat.reduceLeDiff, List.replicate, List.cons_append, List.nil_append, List.append_nil, List.getElem?_cons_zero, List.getElem?_cons_succ, List.set_cons_zero, List.set_cons_succ, if_true, if_false, reduceIte, Bool.not_true, Bool.not_false, Bool.false_eq_true, reduceCtorEq, isW, e]
    | [a, b], hs, hl, hsu =>
      have e : decide ((((2 : Nat)) : Int) = 2) = true := by decide
      have ha := hsu a (by simp)
      have hb := hsu b (by simp)
      simp only [dIx_t0, dIx_t1, dIx_l0, dIx_l1, toItems, itemsOf, runF, runL, startE, endF, endL, R.bind_ok, R.bind_exc, R.bind_stuck, gSeq, gIf, gSet, gOwn, gRet, gRetL, gRetO, gDrop, gTgt, gT, gsC, gsN, gN, gFor, gApp, gExt, gFrz, gNil, gExc, eVar, eC, e1, e2, eA, aNil, aCons, eTup, eLst, eCall, lCall, listR, eChain, tV, tAndD, tOrD, tNotD, eAnd, eOr, eNot, eIf, eL, lDisp, lList, lRep, oNone, oSome, eSl, iSeq, iRng1, iRng2, iZipD, iEnumD, iRevD, lListRange, lLc, eSorted, eSortSet, eLenSet, eBor, tBor, tYesD, noE, toB, dCmp, dSub, dNeg, dInt, dLen, dIs, dIsNot, List.map_cons, List.map_nil, List.length_cons, List.length_nil, Nat.reduceAdd, Nat.reduceSub, Nat.reduceLeDiff, List.replicate, List.cons_append, List.nil_append, List.append_nil, List.getElem?_cons_zero, List.getElem?_cons_succ, List.set_cons_zero, List.set_cons_succ, if_true, if_false, reduceIte, Bool.not_true, Bool.not_false, Bool.false_eq_true, reduceCtorEq, e, F_is_pan_eq m a (.inl ha), F_is_pan_eq m b (.inl hb), isW]
      cases h1 : isPan m a
      · simp only [dIx_t0, dIx_t1, dIx_l0, dIx_l1, toItems, itemsOf, runF, runL, startE, endF, endL, R.bind_ok, R.bind_exc, R.bind_stuck, gSeq, gIf, gSet, gOwn, gRet, gRetL, gRetO, gDrop, gTgt, gT, gsC, gsN, gN, gFor, gApp, gExt, gFrz, gNil, gExc, eVar, eC, e1, e2, eA, aNil, aCons, eTup, eLst, eCall, lCall, listR, eChain, tV, tAndD, tOrD, tNotD, eAnd, eOr, eNot, eIf, eL, lDisp, lList, lRep, oNone, oSome, eSl, iSeq, iRng1, iRng2, iZipD, iEnumD, iRevD, lListRange, lLc, eSorted, eSortSet, eLenSet, eBor, tBor, tYesD, noE, toB, dCmp, dSub, dNeg, dInt, dLen, dIs, dIsNot, List.map_cons, List.map_nil, List.length_cons, List.length_nil, Nat.reduceAdd, Nat.reduceSub, Nat.reduceLeDiff, List.replicate, List.cons_append, List.nil_append, List.append_nil, List.getElem?_cons_zero, List.getElem?_cons_succ, List.set_cons_zero, List.set_cons_succ, if_true, if_false, reduceIte, Bool.not_true, Bool.not_false, Bool.false_eq_true, reduceCtorEq, Bool.false_and]
      · cases h2 : isPan m b
        · simp only [dIx_t0, dIx_t1, dIx_l0, dIx_l1, toItems, itemsOf, runF, runL, startE, endF, endL, R.bind_ok, R.bind_exc, R.bind_stuck, gSeq, gIf, gSet, gOwn, gRet, gRetL, gRetO, gDrop, gTgt, gT, gsC, gsN, gN, gFor, gApp, gExt, gFrz, gNil, gExc, eVar, eC, e1, e2, eA, aNil, aCons, eTup, eLst, eCall, lCall, listR, eChain, tV, tAndD, tOrD, tNotD, eAnd, eOr, eNot, eIf, eL, lDisp, lList, lRep, oNone, oSome, eSl, iSeq, iRng1, iRng2, iZipD, iEnumD, iRevD, lListRange, lLc, eSorted, eSortSet, eLenSet, eBor, tBor, tYesD, noE, toB, dCmp, dSub, dNeg, dInt, dLen, dIs, dIsNot, List.map_cons, List.map_nil, List.length_cons, List.length_nil, Nat.reduceAdd, Nat.reduceSub, Nat.reduceLeDiff, List.replicate, List.cons_append, List.nil_append, List.append_nil, List.getElem?_cons_zero, List.getElem?_cons_succ, List.set_cons_zero, List.set_cons_succ, if_true, if_false, reduceIte, Bool.not_true, Bool.not_false, Bool.false_eq_true, reduceCtorEq, Bool.false_and, Bool.and_false]
        · obtain ⟨xs, rfl⟩ := isPan_tuple h1
          obtain ⟨ys, rfl⟩ := isPan_tuple h2
          have hx := sh_of_tuple ha
          have hy := sh_of_tuple hb
          simp only [dIx_t0, dIx_t1, dIx_l0, dIx_l1, toItems, itemsOf, runF, runL, startE, endF, endL, R.bind_ok, R.bind_exc, R.bind_stuck, gSeq, gIf, gSet, gOwn, gRet, gRetL, gRetO, gDrop, gTgt, gT, gsC, gsN, gN, gFor, gApp, gExt, gFrz, gNil, gExc, eVar, eC, e1, e2, eA, aNil, aCons, eTup, eLst, eCall, lCall, listR, eChain, tV, tAndD, tOrD, tNotD, eAnd, eOr, eNot, eIf, eL, lDisp, lList, lRep, oNone, oSome, eSl, iSeq, iRng1, iRng2, iZipD, iEnumD, iRevD, lListRange, lLc, eSorted, eSortSet, eLenSet, eBor, tBor, tYesD, noE, toB, dCmp, dSub, dNeg, dInt, dLen, dIs, dIsNot, List.map_cons, List.map_nil, List.length_cons, List.length_nil, Nat.reduceAdd, Nat.reduceSub, Nat.reduceLeDiff, List.replicate, List.cons_append, List.nil_append, List.append_nil, List.getElem?_cons_zero, List.getElem?_cons_succ, List.set_cons_zero, List.set_cons_succ, if_true, if_false, reduceIte, Bool.not_true, Bool.not_false, Bool.false_eq_true, reduceCtorEq, Bool.true_and, dEq_int, c_weigh m xs ys _ rfl hx hy (hl _ rfl xs (by simp))]
          by_cases hle : xs.length = ys.length
          · have e3 : decide (((xs.length : Nat) : Int) = (ys.length : Nat)) = true := decide_eq_true (by rw [hle])
            simp only [dIx_t0, dIx_t1, dIx_l0, dIx_l1, toItems, itemsOf, runF, runL, startE, endF, endL, R.bind_ok, R.bind_exc, R.bind_stuck, gSeq, gIf, gSet, gOwn, gRet, gRetL, gRetO, gDrop, gTgt, gT, gsC, gsN, gN, gFor, gApp, gExt, gFrz, gNil, gExc, eVar, eC, e1, e2, eA, aNil, aCons, eTup, eLst, eCall, lCall, listR, eChain, tV, tAndD, tOrD, tNotD, eAnd, eOr, eNot, eIf, eL, lDisp, lList, lRep, oNone, oSome, eSl, iSeq, iRng1, iRng2, iZipD, iEnumD, iRevD, lListRange, lLc, eSorted, eSortSet, eLenSet, eBor, tBor, tYesD, noE, toB, dCmp, dSub, dNeg, dInt, dLen, dIs, dIsNot, List.map_cons, List.map_nil, List.length_cons, List.length_nil, Nat.reduceAdd, Nat.reduceSub, Nat.reduceLeDiff, List.replicate, List.cons_append, List.nil_append, List.append_nil, List.getElem?_cons_zero, List.getElem?_cons_succ, List.set_cons_zero, List.set_cons_succ, if_true, if_false, reduceIte, Bool.not_true, Bool.not_false, Bool.false_eq_true, reduceCtorEq, e3, decide_eq_true hle, Bool.true_and]
            have hf : ∀ z ∈ xs.filter (fun z => ys.any fun y => PyData.eqv y z), sh 59 z := fun z hz => hx z (List.mem_filter.mp hz).1
            rw [dEq_sh (sh_list hf) (sh_list (n := 1) (xs := []) (by simp))]
            simp only [dIx_t0, dIx_t1, dIx_l0, dIx_l1, toItems, itemsOf, runF, runL, startE, endF, endL, R.bind_ok, R.bind_exc, R.bind_stuck, gSeq, gIf, gSet, gOwn, gRet, gRetL, gRetO, gDrop, gTgt, gT, gsC, gsN, gN, gFor, gApp, gExt, gFrz, gNil, gExc, eVar, eC, e1, e2, eA, aNil, aCons, eTup, eLst, eCall, lCall, listR, eChain, tV, tAndD, tOrD, tNotD, eAnd, eOr, eNot, eIf, eL, lDisp, lList, lRep, oNone, oSome, eSl, iSeq, iRng1, iRng2, iZipD, iEnumD, iRevD, lListRange, lLc, eSorted, eSortSet, eLenSet, eBor, tBor, tYesD, noE, toB, dCmp, dSub, dNeg, dInt, dLen, dIs, dIsNot, List.map_cons, List.map_nil, List.length_cons, List.length_nil, Nat.reduceAdd, Nat.reduceSub, Nat.reduceLeDiff, List.replicate, List.cons_append, List.nil_append, List.append_nil, List.getElem?_cons_zero, List.getElem?_cons_succ, List.set_cons_zero, List.set_cons_succ, if_true, if_false, reduceIte, Bool.not_true, Bool.not_false, Bool.false_eq_true, reduceCtorEq]
            have e4 : PyData.eqv (.list (xs.filter fun z => ys.any fun y => PyData.eqv y z)) (.list []) = apartB xs ys := by
              unfold apartB
              rw [Bool.eq_iff_iff, ← filter_nil_all]
              cases xs.filter fun z => ys.any fun y => PyData.eqv y z <;> simp [PyData.eqv, PyData.eqvAll]
            rw [e4]
          · have e3 : decide (((xs.length : Nat) : Int) = (ys.length : Nat)) = false := decide_eq_false (by omega)
            simp only [dIx_t0, dIx_t1, dIx_l0, dIx_l1, toItems, itemsOf, runF, runL, startE, endF, endL, R.bind_ok, R.bind_exc, R.bind_stuck, gSeq, gIf, gSet, gOwn, gRet, gRetL, gRetO, gDrop, gTgt, gT, gsC, gsN, gN, gFor, gApp, gExt, gFrz, gNil, gExc, eVar, eC, e1, e2, eA, aNil, aCons, eTup, eLst, eCall, lCall, listR, eChain, tV, tAndD, tOrD, tNotD, eAnd, eOr, eNot, eIf, eL, lDisp, lList, lRep, oNone, oSome, eSl, iSeq, iRng1, iRng2, iZipD, iEnumD, iRevD, lListRange, lLc, eSorted, eSortSet, eLenSet, eBor, tBor, tYesD, noE, toB, dCmp, dSub, dNeg, dInt, dLen, dIs, dIsNot, List.map_cons, List.map_nil, List.length_cons, List.length_nil, Nat.reduceAdd, Nat.reduceSub, Nat.reduceLeDiff, List.replicate, List.cons_append, List.nil_append, List.append_nil, List.getElem?_cons_zero, List.getElem?_cons_succ, List.set_cons_zero, List.set_cons_succ, if_true, if_false, reduceIte, Bool.not_true, Bool.not_false, Bool.false_eq_true, reduceCtorEq, e3, decide_eq_false hle, Bool.false_and]
  all_goals simp only [dIx_t0, dIx_t1, dIx_l0, dIx_l1, toItems, itemsOf, runF, runL, startE, endF, endL, R.bind_ok, R.bind_exc, R.bind_stuck, gSeq, gIf, gSet, gOwn, gRet, gRetL, gRetO, gDrop, gTgt, gT, gsC, gsN, gN, gFor, gApp, gExt, gFrz, gNil, gExc, eVar, eC, e1, e2, eA, aNil, aCons, eTup, eLst, eCall, lCall, listR, eChain, tV, tAndD, tOrD, tNotD, eAnd, eOr, eNot, eIf, eL, lDisp, lList, lRep, oNone, oSome, eSl, iSeq, iRng1, iRng2, iZipD, iEnumD, iRevD, lListRange, lLc, eSorted, eSortSet, eLenSet, eBor, tBor, tYesD, noE, toB, dCmp, dSub, dNeg, dInt, dLen, dIs, dIsNot, List.map_cons, List.map_nil, List.length_cons, List.length_nil, Nat.reduceAdd, Nat.reduceSub, Nat.reduceLeDiff, List.replicate, List.cons_append, List.nil_append, List.append_nil, List.getElem?_cons_zero, List.getElem?_cons_succ, List.set_cons_zero, List.set_cons_succ, if_true, if_false, reduceIte, Bool.not_true, Bool.not_false, Bool.false_eq_true, reduceCtorEq, isW]
end W

set_option Elab.async false
set_option linter.all false
set_option maxRecDepth 100000
set_option maxHeartbeats 1000000
namespace W
open PySem PL
def goodW (m : Nat) (w : Wg) : Bool := isW m (encW w) && (isW m (encW (swapW w)) && (decide (w.1.length ≤ 30) && decide (w.2.length ≤ 30)))
theorem good2 : ((Ws 2).all (goodW 2)) = true := by decide +kernel
theorem good3 : ((Ws 3).all (goodW 3)) = true := by decide +kernel
theorem good4 : ((Ws 4).all (goodW 4)) = true := by decide +kernel
theorem good5 : ((Ws 5).all (goodW 5)) = true := by decide +kernel
theorem goodWs {m : Nat} (hm : Many m) : ∀ w ∈ Ws m, isW m (encW w) = true ∧ isW m (encW (swapW w)) = true ∧ w.1.length ≤ 30 ∧ w.2.length ≤ 30 := fun w hw => by
  have h : goodW m w = true := by
    rcases hm with rfl | rfl | rfl | rfl
    · exact List.all_eq_true.mp good2 w hw
    · exact List.all_eq_true.mp good3 w hw
    · exact List.all_eq_true.mp good4 w hw
    · exact List.all_eq_true.mp good5 w hw
  simpa [goodW] using h
end W

set_option Elab.async false
set_option linter.all false
set_option maxRecDepth 100000
set_option maxHeartbeats 1000000
namespace W
open PySem PL
/-! ### weighings that were done; what is open -/
abbrev Dn := Wg × Int
def encX (x : Dn) : D := .tuple [encW x.1, .int x.2]
def openI (ds : List Dn) (cs : List (List Int)) : List (List Int) := cs.filter fun c => ds.all fun x => decide (cm x.1 c = x.2)
structure DnOk (m : Nat) (x : Dn) : Prop where
  w : isW m (encW x.1) = true
  s : isW m (encW (swapW x.1)) = true
  wg : WgOk m x.1
  lo : -1 ≤ x.2
  hi : x.2 ≤ 1
def isDnB (m : Int) : D → Bool
  | .tuple [a, b] => isW m a && amongB (-1) 1 b
  | _ => false
/-- what may be looked at -/
def askW (a : D) : Prop := (sh 61 a ∧ ∀ xs, a = .tuple xs → ∀ ys, .tuple ys ∈ xs → ys.length ≤ 100000) ∨ a = .dict []
def askX (t : D) : Prop := tyD t ≠ none ∧ ∀ a b, t = .tuple [a, b] → askW a ∧ tyD b ≠ none
theorem askW_enc {m : Nat} {w : Wg} (h : WgOk m w) : askW (encW w) := .inl ⟨sh_up (encW_sh w) (by decide), fun xs e ys hy => by
  cases e
  simp only [List.mem_cons, List.not_mem_nil, or_false, PyData.tuple.injEq] at hy
  have := h.2.2
  rcases hy with rfl | rfl <;> rw [List.length_map] <;> omega⟩
theorem F_is_done_gen {m : Int} {t : D} (h : askX t) : F_is_done [.int m, t] = .ok (.bool (isDnB m t)) := by
  obtain ⟨ht, h2⟩ := h
  unfold F_is_done g_is_done
  simp only [dIx_t0, dIx_t1, dIx_l0, dIx_l1, toItems, itemsOf, runF, runL, startE, endF, endL, R.bind_ok, R.bind_exc, R.bind_stuck, gSeq, gIf, gSet, gOwn, gRet, gRetL, gRetO, gDrop, gTgt, gT, gsC, gsN, gN, gFor, gApp, gExt, gFrz, gNil, gExc, eVar, eC, e1, e2, eA, aNil, aCons, eTup, eLst, eCall, lCall, listR, eChain, tV, tAndD, tOrD, tNotD, eAnd, eOr, eNot, eIf, eL, lDisp, lList, lRep, oNone, oSome, eSl, iSeq, iRng1, iRng2, iZipD, iEnumD, iRevD, lListRange, lLc, eSorted, eSortSet, eLenSet, eBor, tBor, tYesD, noE, toB, dCmp, dSub, dNeg, dInt, dLen, dIs, dIsNot, List.map_cons, List.map_nil, List.length_cons, List.length_nil, Nat.reduceAdd, Nat.reduceSub, Nat.reduceLeDiff, List.replicate, List.cons_append, List.nil_append, List.append_nil, List.getElem?_cons_zero, List.getElem?_cons_succ, List.set_cons_zero, List.set_cons_succ, if_true, if_false, reduceIte, Bool.not_true, Bool.not_false, Bool.false_eq_true, reduceCtorEq, isi_tuple t ht]
  cases t
  case tuple us =>
    simp only [dIx_t0, dIx_t1, dIx_l0, dIx_l1, toItems, itemsOf, runF, runL, startE, endF, endL, R.bind_ok, R.bind_exc, R.bind_stuck, gSeq, gIf, gSet, gOwn, gRet, gRetL, gRetO, gDrop, gTgt, gT, gsC, gsN, gN, gFor, gApp, gExt, gFrz, gNil, gExc, eVar, eC, e1, e2, eA, aNil, aCons, eTup, eLst, eCall, lCall, listR, eChain, tV, tAndD, tOrD, tNotD, eAnd, eOr, eNot, eIf, eL, lDisp, lList, lRep, oNone, oSome, eSl, iSeq, iRng1, iRng2, iZipD, iEnumD, iRevD, lListRange, lLc, eSorted, eSortSet, eLenSet, eBor, tBor, tYesD, noE, toB, dCmp, dSub, dNeg, dInt, dLen, dIs, dIsNot, List.map_cons, List.map_nil, List.length_cons, List.length_nil, Nat.reduceAdd, Nat.reduceSub, Nat.reduceLeDiff, List.replicate, List.cons_append, List.nil_append, List.append_nil, List.getElem?_cons_zero, List.getElem?_cons_succ, List.set_cons_zero, List.set_cons_succ, if_true, if_false, reduceIte, Bool.not_true, Bool.not_false, Bool.false_eq_true, reduceCtorEq, dNe_int]
    match us, h2 with
    | [], _ => simp only [dIx_t0, dIx_t1, dIx_l0, dIx_l1, toItems, itemsOf, runF, runL, startE, endF, endL, R.bind_ok, R.bind_exc, R.bind_stuck, gSeq, gIf, gSet, gOwn, gRet, gRetL, gRetO, gDrop, gTgt, gT, gsC, gsN, gN, gFor, gApp, gExt, gFrz, gNil, gExc, eVar, eC, e1, e2, eA, aNil, aCons, eTup, eLst, eCall, lCall, listR, eChain, tV, tAndD, tOrD, tNotD, eAnd, eOr, eNot, eIf, eL, lDisp, lList, lRep, oNone, oSome, eSl, iSeq, iRng1, iRng2, iZipD, iEnumD, iRevD, lListRange, lLc, eSorted, eSortSet, eLenSet, eBor, tBor, tYesD, noE, toB, dCmp, dSub, dNeg, dInt, dLen, dIs, dIsNot, List.map_cons, List.map_nil, List.length_cons, List.length_nil, Nat.reduceAdd, Nat.reduceSub, Nat.reduceLeDiff, List.replicate, List.cons_append, List.nil_append, List.append_nil, List.getElem?_cons_zero, List.getElem?_cons_succ, List.set_cons_zero, List.set_cons_succ, if_true, if_false, reduceIte, Bool.not_true, Bool.not_false, Bool.false_eq_true, reduceCtorEq, isDnB]; rfl
    | [_], _ => simp only [dIx_t0, dIx_t1, dIx_l0, dIx_l1, toItems, itemsOf, runF, runL, startE, endF, endL, R.bind_ok, R.bind_exc, R.bind_stuck, gSeq, gIf, gSet, gOwn, gRet, gRetL, gRetO, gDrop, gTgt, gT, gsC, gsN, gN, gFor, gApp, gExt, gFrz, gNil, gExc, eVar, eC, e1, e2, eA, aNil, aCons, eTup, eLst, eCall, lCall, listR, eChain, tV, tAndD, tOrD, tNotD, eAnd, eOr, eNot, eIf, eL, lDisp, lList, lRep, oNone, oSome, eSl, iSeq, iRng1, iRng2, iZipD, iEnumD, iRevD, lListRange, lLc, eSorted, eSortSet, eLenSet, eBor, tBor, tYesD, noE, toB, dCmp, dSub, dNeg, dInt, dLen, dIs, dIsNot, List.map_cons, List.map_nil, List.length_cons, List.length_nil, Nat.reduceAdd, Nat.reduceSub, Nat.reduceLeDiff, List.replicate, List.cons_append, List.nil_append, List.append_nil, List.getElem?_cons_zero, List.getElem?_cons_succ, List.set_cons_zero, List.set_cons_succ, if_true, if_false, reduceIte, Bool.not_true, Bool.not_false, Bool.false_eq_true, reduceCtorEq, isDnB]; rfl
    | _ :: _ :: _ :: r, _ =>
      have e : decide ((((r.length + 1 + 1 + 1 : Nat)) : Int) = 2) = false := decide_eq_false (by omega)
      simp only [dIx_t0, dIx_t1, dIx_l0, dIx_l1, toItems, itemsOf, runF, runL, startE, endF, endL, R.bind_ok, R.bind_exc, R.bind_stuck, gSeq, gIf, gSet, gOwn, gRet, gRetL, gRetO, gDrop, gTgt, gT, gsC, gsN, gN, gFor, gApp, gExt, gFrz, gNil, gExc, eVar, eC, e1, e2, eA, aNil, aCons, eTup, eLst, eCall, lCall, listR, eChain, tV, tAndD, tOrD, tNotD, eAnd, eOr, eNot, eIf, eL, lDisp, lList, lRep, oNone, oSome, eSl, iSeq, iRng1, iRng2, iZipD, iEnumD, iRevD, lListRange, lLc, eSorted, eSortSet, eLenSet, eBor, tBor, tYesD, noE, toB, dCmp, dSub, dNeg, dInt, dLen, dIs, dIsNot, List.map_cons, List.map_nil, List.length_cons, List.length_nil, Nat.reduceAdd, Nat.reduceSub, Nat.reduceLeDiff, List.replicate, List.cons_append, List.nil_append, List.append_nil, List.getElem?_cons_zero, List.getElem?_cons_succ, List.set_cons_zero, List.set_cons_succ, if_true, if_false, reduceIte, Bool.not_true, Bool.not_false, Bool.false_eq_true, reduceCtorEq, isDnB, e]
    | [a, b], h2 =>
      obtain ⟨ha, hb⟩ := h2 a b rfl
      have q1 : decide ((((0 : Nat) + 1 + 1 : Nat) : Int) = 2) = true := by decide
      simp only [dIx_t0, dIx_t1, dIx_l0, dIx_l1, toItems, itemsOf, runF, runL, startE, endF, endL, R.bind_ok, R.bind_exc, R.bind_stuck, gSeq, gIf, gSet, gOwn, gRet, gRetL, gRetO, gDrop, gTgt, gT, gsC, gsN, gN, gFor, gApp, gExt, gFrz, gNil, gExc, eVar, eC, e1, e2, eA, aNil, aCons, eTup, eLst, eCall, lCall, listR, eChain, tV, tAndD, tOrD, tNotD, eAnd, eOr, eNot, eIf, eL, lDisp, lList, lRep, oNone, oSome, eSl, iSeq, iRng1, iRng2, iZipD, iEnumD, iRevD, lListRange, lLc, eSorted, eSortSet, eLenSet, eBor, tBor, tYesD, noE, toB, dCmp, dSub, dNeg, dInt, dLen, dIs, dIsNot, List.map_cons, List.map_nil, List.length_cons, List.length_nil, Nat.reduceAdd, Nat.reduceSub, Nat.reduceLeDiff, List.replicate, List.cons_append, List.nil_append, List.append_nil, List.getElem?_cons_zero, List.getElem?_cons_succ, List.set_cons_zero, List.set_cons_succ, if_true, if_false, reduceIte, Bool.not_true, Bool.not_false, Bool.false_eq_true, reduceCtorEq, q1, F_is_weighing_eq m a ha, Int.reduceNeg, F_is_among_eq b hb, isDnB]
      cases isW m a <;> simp only [dIx_t0, dIx_t1, dIx_l0, dIx_l1, toItems, itemsOf, runF, runL, startE, endF, endL, R.bind_ok, R.bind_exc, R.bind_stuck, gSeq, gIf, gSet, gOwn, gRet, gRetL, gRetO, gDrop, gTgt, gT, gsC, gsN, gN, gFor, gApp, gExt, gFrz, gNil, gExc, eVar, eC, e1, e2, eA, aNil, aCons, eTup, eLst, eCall, lCall, listR, eChain, tV, tAndD, tOrD, tNotD, eAnd, eOr, eNot, eIf, eL, lDisp, lList, lRep, oNone, oSome, eSl, iSeq, iRng1, iRng2, iZipD, iEnumD, iRevD, lListRange, lLc, eSorted, eSortSet, eLenSet, eBor, tBor, tYesD, noE, toB, dCmp, dSub, dNeg, dInt, dLen, dIs, dIsNot, List.map_cons, List.map_nil, List.length_cons, List.length_nil, Nat.reduceAdd, Nat.reduceSub, Nat.reduceLeDiff, List.replicate, List.cons_append, List.nil_append, List.append_nil, List.getElem?_cons_zero, List.getElem?_cons_succ, List.set_cons_zero, List.set_cons_succ, if_true, if_false, reduceIte, Bool.not_true, Bool.not_false, Bool.false_eq_true, reduceCtorEq, Bool.true_and, Bool.false_and]
  all_goals simp only [dIx_t0, dIx_t1, dIx_l0, dIx_l1, toItems, itemsOf, runF, runL, startE, endF, endL, R.bind_ok, R.bind_exc, R.bind_stuck, gSeq, gIf, gSet, gOwn, gRet, gRetL, gRetO, gDrop, gTgt, gT, gsC, gsN, gN, gFor, gApp, gExt, gFrz, gNil, gExc, eVar, eC, e1, e2, eA, aNil, aCons, eTup, eLst, eCall, lCall, listR, eChain, tV, tAndD, tOrD, tNotD, eAnd, eOr, eNot, eIf, eL, lDisp, lList, lRep, oNone, oSome, eSl, iSeq, iRng1, iRng2, iZipD, iEnumD, iRevD, lListRange, lLc, eSorted, eSortSet, eLenSet, eBor, tBor, tYesD, noE, toB, dCmp, dSub, dNeg, dInt, dLen, dIs, dIsNot, List.map_cons, List.map_nil, List.length_cons, List.length_nil, Nat.reduceAdd, Nat.reduceSub, Nat.reduceLeDiff, List.replicate, List.cons_append, List.nil_append, List.append_nil, List.getElem?_cons_zero, List.getElem?_cons_succ, List.set_cons_zero, List.set_cons_succ, if_true, if_false, reduceIte, Bool.not_true, Bool.not_false, Bool.false_eq_true, reduceCtorEq, isDnB]
theorem askX_enc {m : Nat} {x : Dn} (h : DnOk m x) : askX (encX x) := ⟨by simp [encX, tyD], fun a b e => by
  cases e
  exact ⟨askW_enc h.wg, by simp [tyD]⟩⟩
theorem isDnB_enc {m : Nat} {x : Dn} (h : DnOk m x) : isDnB m (encX x) = true := by
  simp only [encX, isDnB, h.w, amongB, Bool.true_and, Bool.and_eq_true, decide_eq_true_eq]
  exact ⟨h.lo, h.hi⟩
theorem done_loop {m : Int} : ∀ (xs : List D) (s1 s2 : PL.Slot noObj), (∀ x ∈ xs, askX x) → ∃ t2, loopF (gN 2) g_need_done_L1 xs [.val (.int m), s1, s2] = if xs.all (isDnB m) = true then .ok (.nx, [.val (.int m), s1, t2]) else .exc 3
  | [], s1, s2, _ => ⟨s2, rfl⟩
  | x :: xs, s1, s2, h => by
    obtain ⟨t2, e⟩ := done_loop (m := m) xs s1 (.val x) fun y hy => h y (List.mem_cons_of_mem _ hy)
    refine ⟨t2, ?_⟩
    unfold loopF g_need_done_L1
    unfold g_need_done_L1 at e
    rw [List.all_cons]
    cases hb : isDnB m x
    · simp only [dIx_t0, dIx_t1, dIx_l0, dIx_l1, toItems, itemsOf, runF, runL, startE, endF, endL, R.bind_ok, R.bind_exc, R.bind_stuck, gSeq, gIf, gSet, gOwn, gRet, gRetL, gRetO, gDrop, gTgt, gT, gsC, gsN, gN, gFor, gApp, gExt, gFrz, gNil, gExc, eVar, eC, e1, e2, eA, aNil, aCons, eTup, eLst, eCall, lCall, listR, eChain, tV, tAndD, tOrD, tNotD, eAnd, eOr, eNot, eIf, eL, lDisp, lList, lRep, oNone, oSome, eSl, iSeq, iRng1, iRng2, iZipD, iEnumD, iRevD, lListRange, lLc, eSorted, eSortSet, eLenSet, eBor, tBor, tYesD, noE, toB, dCmp, dSub, dNeg, dInt, dLen, dIs, dIsNot, List.map_cons, List.map_nil, List.length_cons, List.length_nil, Nat.reduceAdd, Nat.reduceSub, Nat.reduceLeDiff, List.replicate, List.cons_append, List.nil_append, List.append_nil, List.getElem?_cons_zero, List.getElem?_cons_succ, List.set_cons_zero, List.set_cons_succ, if_true, if_false, reduceIte, Bool.not_true, Bool.not_false, Bool.false_eq_true, reduceCtorEq, F_is_done_gen (m := m) (h x (List.mem_cons_self ..)), hb, Bool.false_and]
    · simp only [dIx_t0, dIx_t1, dIx_l0, dIx_l1, toItems, itemsOf, runF, runL, startE, endF, endL, R.bind_ok, R.bind_exc, R.bind_stuck, gSeq, gIf, gSet, gOwn, gRet, gRetL, gRetO, gDrop, gTgt, gT, gsC, gsN, gN, gFor, gApp, gExt, gFrz, gNil, gExc, eVar, eC, e1, e2, eA, aNil, aCons, eTup, eLst, eCall, lCall, listR, eChain, tV, tAndD, tOrD, tNotD, eAnd, eOr, eNot, eIf, eL, lDisp, lList, lRep, oNone, oSome, eSl, iSeq, iRng1, iRng2, iZipD, iEnumD, iRevD, lListRange, lLc, eSorted, eSortSet, eLenSet, eBor, tBor, tYesD, noE, toB, dCmp, dSub, dNeg, dInt, dLen, dIs, dIsNot, List.map_cons, List.map_nil, List.length_cons, List.length_nil, Nat.reduceAdd, Nat.reduceSub, Nat.reduceLeDiff, List.replicate, List.cons_append, List.nil_append, List.append_nil, List.getElem?_cons_zero, List.getElem?_cons_succ, List.set_cons_zero, List.set_cons_succ, if_true, if_false, reduceIte, Bool.not_true, Bool.not_false, Bool.false_eq_true, reduceCtorEq, F_is_done_gen (m := m) (h x (List.mem_cons_self ..)), hb, Bool.true_and]
      exact e
def goodDone (m : Int) : D → Bool
  | .list xs => decide (xs.length ≤ 20) && xs.all (isDnB m)
  | _ => false
theorem F_need_done_gen {m : Int} {t : D} (ht : tyD t ≠ none) (h : ∀ xs, t = .list xs → xs.length ≤ 20 → ∀ x ∈ xs, askX x) : F_need_done [.int m, t] = if goodDone m t = true then .ok .none else .exc 3 := by
  unfold F_need_done g_need_done
  simp only [dIx_t0, dIx_t1, dIx_l0, dIx_l1, toItems, itemsOf, runF, runL, startE, endF, endL, R.bind_ok, R.bind_exc, R.bind_stuck, gSeq, gIf, gSet, gOwn, gRet, gRetL, gRetO, gDrop, gTgt, gT, gsC, gsN, gN, gFor, gApp, gExt, gFrz, gNil, gExc, eVar, eC, e1, e2, eA, aNil, aCons, eTup, eLst, eCall, lCall, listR, eChain, tV, tAndD, tOrD, tNotD, eAnd, eOr, eNot, eIf, eL, lDisp, lList, lRep, oNone, oSome, eSl, iSeq, iRng1, iRng2, iZipD, iEnumD, iRevD, lListRange, lLc, eSorted, eSortSet, eLenSet, eBor, tBor, tYesD, noE, toB, dCmp, dSub, dNeg, dInt, dLen, dIs, dIsNot, List.map_cons, List.map_nil, List.length_cons, List.length_nil, Nat.reduceAdd, Nat.reduceSub, Nat.reduceLeDiff, List.replicate, List.cons_append, List.nil_append, List.append_nil, List.getElem?_cons_zero, List.getElem?_cons_succ, List.set_cons_zero, List.set_cons_succ, if_true, if_false, reduceIte, Bool.not_true, Bool.not_false, Bool.false_eq_true, reduceCtorEq, isi_list t ht]
  cases t
  case list xs =>
    by_cases hl : xs.length ≤ 20
    · obtain ⟨t2, e⟩ := done_loop (m := m) xs (.val (.list xs)) .no (h xs rfl hl)
      have q2 : dGt (.int ((xs.length : Nat) : Int)) (.int 20) = .ok (.bool false) := by
        show R.ok (PyData.bool (decide ((20 : Int) < ((xs.length : Nat) : Int)))) = _
        rw [decide_eq_false (by omega)]
      simp only [dIx_t0, dIx_t1, dIx_l0, dIx_l1, toItems, itemsOf, runF, runL, startE, endF, endL, R.bind_ok, R.bind_exc, R.bind_stuck, gSeq, gIf, gSet, gOwn, gRet, gRetL, gRetO, gDrop, gTgt, gT, gsC, gsN, gN, gFor, gApp, gExt, gFrz, gNil, gExc, eVar, eC, e1, e2, eA, aNil, aCons, eTup, eLst, eCall, lCall, listR, eChain, tV, tAndD, tOrD, tNotD, eAnd, eOr, eNot, eIf, eL, lDisp, lList, lRep, oNone, oSome, eSl, iSeq, iRng1, iRng2, iZipD, iEnumD, iRevD, lListRange, lLc, eSorted, eSortSet, eLenSet, eBor, tBor, tYesD, noE, toB, dCmp, dSub, dNeg, dInt, dLen, dIs, dIsNot, List.map_cons, List.map_nil, List.length_cons, List.length_nil, Nat.reduceAdd, Nat.reduceSub, Nat.reduceLeDiff, List.replicate, List.cons_append, List.nil_append, List.append_nil, List.getElem?_cons_zero, List.getElem?_cons_succ, List.set_cons_zero, List.set_cons_succ, if_true, if_false, reduceIte, Bool.not_true, Bool.not_false, Bool.false_eq_true, reduceCtorEq, q2, e, goodDone, decide_eq_true hl, Bool.true_and]
      cases xs.all (isDnB m) <;> simp only [dIx_t0, dIx_t1, dIx_l0, dIx_l1, toItems, itemsOf, runF, runL, startE, endF, endL, R.bind_ok, R.bind_exc, R.bind_stuck, gSeq, gIf, gSet, gOwn, gRet, gRetL, gRetO, gDrop, gTgt, gT, gsC, gsN, gN, gFor, gApp, gExt, gFrz, gNil, gExc, eVar, eC, e1, e2, eA, aNil, aCons, eTup, eLst, eCall, lCall, listR, eChain, tV, tAndD, tOrD, tNotD, eAnd, eOr, eNot, eIf, eL, lDisp, lList, lRep, oNone, oSome, eSl, iSeq, iRng1, iRng2, iZipD, iEnumD, iRevD, lListRange, lLc, eSorted, eSortSet, eLenSet, eBor, tBor, tYesD, noE, toB, dCmp, dSub, dNeg, dInt, dLen, dIs, dIsNot, List.map_cons, List.map_nil, List.length_cons, List.length_nil, Nat.reduceAdd, Nat.reduceSub, Nat.reduceLeDiff, List.replicate, List.cons_append, List.nil_append, List.append_nil, List.getElem?_cons_zero, List.getElem?_cons_succ, List.set_cons_zero, List.set_cons_succ, if_true, if_false, reduceIte, Bool.not_true, Bool.not_false, Bool.false_eq_true, reduceCtorEq]
    · have q2 : dGt (.int ((xs.length : Nat) : Int)) (.int 20) = .ok (.bool true) := by
        show R.ok (PyData.bool (decide ((20 : Int) < ((xs.length : Nat) : Int)))) = _
        rw [decide_eq_true (by omega)]
      simp only [dIx_t0, dIx_t1, dIx_l0, dIx_l1, toItems, itemsOf, runF, runL, startE, endF, endL, R.bind_ok, R.bind_exc, R.bind_stuck, gSeq, gIf, gSet, gOwn, gRet, gRetL, gRetO, gDrop, gTgt, gT, gsC, gsN, gN, gFor, gApp, gExt, gFrz, gNil, gExc, eVar, eC, e1, e2, eA, aNil, aCons, eTup, eLst, eCall, lCall, listR, eChain, tV, tAndD, tOrD, tNotD, eAnd, eOr, eNot, eIf, eL, lDisp, lList, lRep, oNone, oSome, eSl, iSeq, iRng1, iRng2, iZipD, iEnumD, iRevD, lListRange, lLc, eSorted, eSortSet, eLenSet, eBor, tBor, tYesD, noE, toB, dCmp, dSub, dNeg, dInt, dLen, dIs, dIsNot, List.map_cons, List.map_nil, List.length_cons, List.length_nil, Nat.reduceAdd, Nat.reduceSub, Nat.reduceLeDiff, List.replicate, List.cons_append, List.nil_append, List.append_nil, List.getElem?_cons_zero, List.getElem?_cons_succ, List.set_cons_zero, List.set_cons_succ, if_true, if_false, reduceIte, Bool.not_true, Bool.not_false, Bool.false_eq_true, reduceCtorEq, q2, goodDone, decide_eq_false hl, Bool.false_and]
  all_goals simp only [dIx_t0, dIx_t1, dIx_l0, dIx_l1, toItems, itemsOf, runF, runL, startE, endF, endL, R.bind_ok, R.bind_exc, R.bind_stuck, gSeq, gIf, gSet, gOwn, gRet, gRetL, gRetO, gDrop, gTgt, gT, gsC, gsN, gN, gFor, gApp, gExt, gFrz, gNil, gExc, eVar, eC, e1, e2, eA, aNil, aCons, eTup, eLst, eCall, lCall, listR, eChain, tV, tAndD, tOrD, tNotD, eAnd, eOr, eNot, eIf, eL, lDisp, lList, lRep, oNone, oSome, eSl, iSeq, iRng1, iRng2, iZipD, iEnumD, iRevD, lListRange, lLc, eSorted, eSortSet, eLenSet, eBor, tBor, tYesD, noE, toB, dCmp, dSub, dNeg, dInt, dLen, dIs, dIsNot, List.map_cons, List.map_nil, List.length_cons, List.length_nil, Nat.reduceAdd, Nat.reduceSub, Nat.reduceLeDiff, List.replicate, List.cons_append, List.nil_append, List.append_nil, List.getElem?_cons_zero, List.getElem?_cons_succ, List.set_cons_zero, List.set_cons_succ, if_true, if_false, reduceIte, Bool.not_true, Bool.not_false, Bool.false_eq_true, reduceCtorEq, goodDone]
theorem F_need_done_eq {m : Nat} {ds : List Dn} (h : ∀ x ∈ ds, DnOk m x) (hl : ds.length ≤ 20) : F_need_done [.int m, .list (ds.map encX)] = .ok .none := by
  rw [F_need_done_gen (by simp [tyD]) fun xs e _ x hx => ?_]
  · have e : goodDone m (.list (ds.map encX)) = true := by
      simp only [goodDone, List.length_map, decide_eq_true hl, Bool.true_and, List.all_map, List.all_eq_true, Function.comp_def]
      exact fun x hx => isDnB_enc (h x hx)
    rw [if_pos e]
  · cases e
    obtain ⟨y, hy, rfl⟩ := List.mem_map.mp hx
    exact askX_enc (h y hy)
theorem open_1 {m : Nat} {ds : List Dn} (h : ∀ x ∈ ds, DnOk m x) (hl : ds.length ≤ 20) {c : List Int} (hc : CaseOk m c) (s0 s1 : PL.Slot noObj) : c_still_open_1 [s0, s1, .val (.list (ds.map encX)), .val (encC c), .no, .no] = .ok (ds.map fun x => .bool (decide (cm x.1 c = x.2))) := by
  unfold c_still_open_1
  simp only [dIx_t0, dIx_t1, dIx_l0, dIx_l1, toItems, itemsOf, runF, runL, startE, endF, endL, R.bind_ok, R.bind_exc, R.bind_stuck, gSeq, gIf, gSet, gOwn, gRet, gRetL, gRetO, gDrop, gTgt, gT, gsC, gsN, gN, gFor, gApp, gExt, gFrz, gNil, gExc, eVar, eC, e1, e2, eA, aNil, aCons, eTup, eLst, eCall, lCall, listR, eChain, tV, tAndD, tOrD, tNotD, eAnd, eOr, eNot, eIf, eL, lDisp, lList, lRep, oNone, oSome, eSl, iSeq, iRng1, iRng2, iZipD, iEnumD, iRevD, lListRange, lLc, eSorted, eSortSet, eLenSet, eBor, tBor, tYesD, noE, toB, dCmp, dSub, dNeg, dInt, dLen, dIs, dIsNot, List.map_cons, List.map_nil, List.length_cons, List.length_nil, Nat.reduceAdd, Nat.reduceSub, Nat.reduceLeDiff, List.replicate, List.cons_append, List.nil_append, List.append_nil, List.getElem?_cons_zero, List.getElem?_cons_succ, List.set_cons_zero, List.set_cons_succ, if_true, if_false, reduceIte, Bool.not_true, Bool.not_false, Bool.false_eq_true, reduceCtorEq]
  rw [if_pos ⟨by rw [List.length_map]; omega, rfl⟩]
  refine noE_of (each_map' fun x hx => ?_)
  unfold lcStep
  simp only [dIx_t0, dIx_t1, dIx_l0, dIx_l1, toItems, itemsOf, runF, runL, startE, endF, endL, R.bind_ok, R.bind_exc, R.bind_stuck, gSeq, gIf, gSet, gOwn, gRet, gRetL, gRetO, gDrop, gTgt, gT, gsC, gsN, gN, gFor, gApp, gExt, gFrz, gNil, gExc, eVar, eC, e1, e2, eA, aNil, aCons, eTup, eLst, eCall, lCall, listR, eChain, tV, tAndD, tOrD, tNotD, eAnd, eOr, eNot, eIf, eL, lDisp, lList, lRep, oNone, oSome, eSl, iSeq, iRng1, iRng2, iZipD, iEnumD, iRevD, lListRange, lLc, eSorted, eSortSet, eLenSet, eBor, tBor, tYesD, noE, toB, dCmp, dSub, dNeg, dInt, dLen, dIs, dIsNot, List.map_cons, List.map_nil, List.length_cons, List.length_nil, Nat.reduceAdd, Nat.reduceSub, Nat.reduceLeDiff, List.replicate, List.cons_append, List.nil_append, List.append_nil, List.getElem?_cons_zero, List.getElem?_cons_succ, List.set_cons_zero, List.set_cons_succ, if_true, if_false, reduceIte, Bool.not_true, Bool.not_false, Bool.false_eq_true, reduceCtorEq, wipeE, encX, came_eq (h x hx).wg hc, dEq_int]
theorem F_still_open_eq {m : Nat} (hm : Many m) {cs : List (List Int)} (hc : CasesOk m cs) {ds : List Dn} (h : ∀ x ∈ ds, DnOk m x) (hl : ds.length ≤ 20) : F_still_open [.int m, .list (cs.map encC), .list (ds.map encX)] = .ok ((openI ds cs).map encC) := by
  have key : c_still_open_2 [.val (.int m), .val (.list (cs.map encC)), .val (.list (ds.map encX)), .no, .no, .no] = .ok ((openI ds cs).map encC) := by
    unfold c_still_open_2
    simp only [dIx_t0, dIx_t1, dIx_l0, dIx_l1, toItems, itemsOf, runF, runL, startE, endF, endL, R.bind_ok, R.bind_exc, R.bind_stuck, gSeq, gIf, gSet, gOwn, gRet, gRetL, gRetO, gDrop, gTgt, gT, gsC, gsN, gN, gFor, gApp, gExt, gFrz, gNil, gExc, eVar, eC, e1, e2, eA, aNil, aCons, eTup, eLst, eCall, lCall, listR, eChain, tV, tAndD, tOrD, tNotD, eAnd, eOr, eNot, eIf, eL, lDisp, lList, lRep, oNone, oSome, eSl, iSeq, iRng1, iRng2, iZipD, iEnumD, iRevD, lListRange, lLc, eSorted, eSortSet, eLenSet, eBor, tBor, tYesD, noE, toB, dCmp, dSub, dNeg, dInt, dLen, dIs, dIsNot, List.map_cons, List.map_nil, List.length_cons, List.length_nil, Nat.reduceAdd, Nat.reduceSub, Nat.reduceLeDiff, List.replicate, List.cons_append, List.nil_append, List.append_nil, List.getElem?_cons_zero, List.getElem?_cons_succ, List.set_cons_zero, List.set_cons_succ, if_true, if_false, reduceIte, Bool.not_true, Bool.not_false, Bool.false_eq_true, reduceCtorEq]
    rw [if_pos ⟨by have := hc.le; rw [List.length_map]; omega, rfl⟩]
    refine noE_of (each_enc fun c hcm => ?_)
    have o1 := open_1 h hl (hc.ok c hcm) (.val (.int m)) (.val (.list (cs.map encC)))
    have da : dAll [.list (ds.map fun x => PyData.bool (decide (cm x.1 c = x.2)))] = .ok (.bool (ds.all fun x => decide (cm x.1 c = x.2))) := map_bool_all _ ds
    unfold lcStep
    simp only [dIx_t0, dIx_t1, dIx_l0, dIx_l1, toItems, itemsOf, runF, runL, startE, endF, endL, R.bind_ok, R.bind_exc, R.bind_stuck, gSeq, gIf, gSet, gOwn, gRet, gRetL, gRetO, gDrop, gTgt, gT, gsC, gsN, gN, gFor, gApp, gExt, gFrz, gNil, gExc, eVar, eC, e1, e2, eA, aNil, aCons, eTup, eLst, eCall, lCall, listR, eChain, tV, tAndD, tOrD, tNotD, eAnd, eOr, eNot, eIf, eL, lDisp, lList, lRep, oNone, oSome, eSl, iSeq, iRng1, iRng2, iZipD, iEnumD, iRevD, lListRange, lLc, eSorted, eSortSet, eLenSet, eBor, tBor, tYesD, noE, toB, dCmp, dSub, dNeg, dInt, dLen, dIs, dIsNot, List.map_cons, List.map_nil, List.length_cons, List.length_nil, Nat.reduceAdd, Nat.reduceSub, Nat.reduceLeDiff, List.replicate, List.cons_append, List.nil_append, List.append_nil, List.getElem?_cons_zero, List.getElem?_cons_succ, List.set_cons_zero, List.set_cons_succ, if_true, if_false, reduceIte, Bool.not_true, Bool.not_false, Bool.false_eq_true, reduceCtorEq, wipeE, o1, da]
    cases (ds.all fun x => decide (cm x.1 c = x.2)) <;> simp only [dIx_t0, dIx_t1, dIx_l0, dIx_l1, toItems, itemsOf, runF, runL, startE, endF, endL, R.bind_ok, R.bind_exc, R.bind_stuck, gSeq, gIf, gSet, gOwn, gRet, gRetL, gRetO, gDrop, gTgt, gT, gsC, gsN, gN, gFor, gApp, gExt, gFrz, gNil, gExc, eVar, eC, e1, e2, eA, aNil, aCons, eTup, eLst, eCall, lCall, listR, eChain, tV, tAndD, tOrD, tNotD, eAnd, eOr, eNot, eIf, eL, lDisp, lList, lRep, oNone, oSome, eSl, iSeq, iRng1, iRng2, iZipD, iEnumD, iRevD, lListRange, lLc, eSorted, eSortSet, eLenSet, eBor, tBor, tYesD, noE, toB, dCmp, dSub, dNeg, dInt, dLen, dIs, dIsNot, List.map_cons, List.map_nil, List.length_cons, List.length_nil, Nat.reduceAdd, Nat.reduceSub, Nat.reduceLeDiff, List.replicate, List.cons_append, List.nil_append, List.append_nil, List.getElem?_cons_zero, List.getElem?_cons_succ, List.set_cons_zero, List.set_cons_succ, if_true, if_false, reduceIte, Bool.not_true, Bool.not_false, Bool.false_eq_true, reduceCtorEq]
  unfold F_still_open g_still_open
  simp only [dIx_t0, dIx_t1, dIx_l0, dIx_l1, toItems, itemsOf, runF, runL, startE, endF, endL, R.bind_ok, R.bind_exc, R.bind_stuck, gSeq, gIf, gSet, gOwn, gRet, gRetL, gRetO, gDrop, gTgt, gT, gsC, gsN, gN, gFor, gApp, gExt, gFrz, gNil, gExc, eVar, eC, e1, e2, eA, aNil, aCons, eTup, eLst, eCall, lCall, listR, eChain, tV, tAndD, tOrD, tNotD, eAnd, eOr, eNot, eIf, eL, lDisp, lList, lRep, oNone, oSome, eSl, iSeq, iRng1, iRng2, iZipD, iEnumD, iRevD, lListRange, lLc, eSorted, eSortSet, eLenSet, eBor, tBor, tYesD, noE, toB, dCmp, dSub, dNeg, dInt, dLen, dIs, dIsNot, List.map_cons, List.map_nil, List.length_cons, List.length_nil, Nat.reduceAdd, Nat.reduceSub, Nat.reduceLeDiff, List.replicate, List.cons_append, List.nil_append, List.append_nil, List.getElem?_cons_zero, List.getElem?_cons_succ, List.set_cons_zero, List.set_cons_succ, if_true, if_false, reduceIte, Bool.not_true, Bool.not_false, Bool.false_eq_true, reduceCtorEq, F_need_cases_ok (many25 hm) hc, F_need_done_eq h hl, key]
theorem F_still_open_bad {m : Nat} (hm : Many m) {cs : List (List Int)} (hc : CasesOk m cs) {t : D} (h : F_need_done [.int m, t] = .exc 3) : F_still_open [.int m, .list (cs.map encC), t] = .exc 3 := by
  unfold F_still_open g_still_open
  simp only [dIx_t0, dIx_t1, dIx_l0, dIx_l1, toItems, itemsOf, runF, runL, startE, endF, endL, R.bind_ok, R.bind_exc, R.bind_stuck, gSeq, gIf, gSet, gOwn, gRet, gRetL, gRetO, gDrop, gTgt, gT, gsC, gsN, gN, gFor, gApp, gExt, gFrz, gNil, gExc, eVar, eC, e1, e2, eA, aNil, aCons, eTup, eLst, eCall, lCall, listR, eChain, tV, tAndD, tOrD, tNotD, eAnd, eOr, eNot, eIf, eL, lDisp, lList, lRep, oNone, oSome, eSl, iSeq, iRng1, iRng2, iZipD, iEnumD, iRevD, lListRange, lLc, eSorted, eSortSet, eLenSet, eBor, tBor, tYesD, noE, toB, dCmp, dSub, dNeg, dInt, dLen, dIs, dIsNot, List.map_cons, List.map_nil, List.length_cons, List.length_nil, Nat.reduceAdd, Nat.reduceSub, Nat.reduceLeDiff, List.replicate, List.cons_append, List.nil_append, List.append_nil, List.getElem?_cons_zero, List.getElem?_cons_succ, List.set_cons_zero, List.set_cons_succ, if_true, if_false, reduceIte, Bool.not_true, Bool.not_false, Bool.false_eq_true, reduceCtorEq, F_need_cases_ok (many25 hm) hc, h]
/-! ### the law's own: what is open -/
theorem ones_nil {α : Type} (l : List α) : dEq (.list (l.map fun _ => PyData.int 1)) (.list []) = .ok (.bool l.isEmpty) := by
  rw [dEq_sh (sh_list (n := 1) fun x hx => by
    obtain ⟨_, _, rfl⟩ := List.mem_map.mp hx
    exact sh_ints [1] (.int 1) (by simp)) (sh_list (n := 1) (xs := []) (by simp))]
  cases l <;> simp [PyData.eqv, PyData.eqvAll]
theorem F__law_open_eq {m : Nat} {cs : List (List Int)} (hc : ∀ c ∈ cs, CaseOk m c) (hcl : cs.length ≤ 100) {ds : List Dn} (h : ∀ x ∈ ds, DnOk m x) (hl : ds.length ≤ 20) : F__law_open [.list (cs.map encC), .list (ds.map encX)] = .ok ((openI ds cs).map encC) := by
  have o1 : ∀ c ∈ cs, c__law_open_1 [.val (.list (cs.map encC)), .val (.list (ds.map encX)), .val (encC c), .no, .no] = .ok ((ds.filter fun x => !decide (cm x.1 c = x.2)).map fun _ => .int 1) := fun c hcm => by
    unfold c__law_open_1
    simp only [dIx_t0, dIx_t1, dIx_l0, dIx_l1, toItems, itemsOf, runF, runL, startE, endF, endL, R.bind_ok, R.bind_exc, R.bind_stuck, gSeq, gIf, gSet, gOwn, gRet, gRetL, gRetO, gDrop, gTgt, gT, gsC, gsN, gN, gFor, gApp, gExt, gFrz, gNil, gExc, eVar, eC, e1, e2, eA, aNil, aCons, eTup, eLst, eCall, lCall, listR, eChain, tV, tAndD, tOrD, tNotD, eAnd, eOr, eNot, eIf, eL, lDisp, lList, lRep, oNone, oSome, eSl, iSeq, iRng1, iRng2, iZipD, iEnumD, iRevD, lListRange, lLc, eSorted, eSortSet, eLenSet, eBor, tBor, tYesD, noE, toB, dCmp, dSub, dNeg, dInt, dLen, dIs, dIsNot, List.map_cons, List.map_nil, List.length_cons, List.length_nil, Nat.reduceAdd, Nat.reduceSub, Nat.reduceLeDiff, List.replicate, List.cons_append, List.nil_append, List.append_nil, List.getElem?_cons_zero, List.getElem?_cons_succ, List.set_cons_zero, List.set_cons_succ, if_true, if_false, reduceIte, Bool.not_true, Bool.not_false, Bool.false_eq_true, reduceCtorEq]
    rw [if_pos ⟨by rw [List.length_map]; omega, rfl⟩]
    refine noE_of (each_two (β := Unit) fun x hx => ?_)
    unfold lcStep
    simp only [dIx_t0, dIx_t1, dIx_l0, dIx_l1, toItems, itemsOf, runF, runL, startE, endF, endL, R.bind_ok, R.bind_exc, R.bind_stuck, gSeq, gIf, gSet, gOwn, gRet, gRetL, gRetO, gDrop, gTgt, gT, gsC, gsN, gN, gFor, gApp, gExt, gFrz, gNil, gExc, eVar, eC, e1, e2, eA, aNil, aCons, eTup, eLst, eCall, lCall, listR, eChain, tV, tAndD, tOrD, tNotD, eAnd, eOr, eNot, eIf, eL, lDisp, lList, lRep, oNone, oSome, eSl, iSeq, iRng1, iRng2, iZipD, iEnumD, iRevD, lListRange, lLc, eSorted, eSortSet, eLenSet, eBor, tBor, tYesD, noE, toB, dCmp, dSub, dNeg, dInt, dLen, dIs, dIsNot, List.map_cons, List.map_nil, List.length_cons, List.length_nil, Nat.reduceAdd, Nat.reduceSub, Nat.reduceLeDiff, List.replicate, List.cons_append, List.nil_append, List.append_nil, List.getElem?_cons_zero, List.getElem?_cons_succ, List.set_cons_zero, List.set_cons_succ, if_true, if_false, reduceIte, Bool.not_true, Bool.not_false, Bool.false_eq_true, reduceCtorEq, wipeE, encX, lcame_eq (h x hx).wg (hc c hcm), dNe_int]
    by_cases e : cm x.1 c = x.2
    · simp only [dIx_t0, dIx_t1, dIx_l0, dIx_l1, toItems, itemsOf, runF, runL, startE, endF, endL, R.bind_ok, R.bind_exc, R.bind_stuck, gSeq, gIf, gSet, gOwn, gRet, gRetL, gRetO, gDrop, gTgt, gT, gsC, gsN, gN, gFor, gApp, gExt, gFrz, gNil, gExc, eVar, eC, e1, e2, eA, aNil, aCons, eTup, eLst, eCall, lCall, listR, eChain, tV, tAndD, tOrD, tNotD, eAnd, eOr, eNot, eIf, eL, lDisp, lList, lRep, oNone, oSome, eSl, iSeq, iRng1, iRng2, iZipD, iEnumD, iRevD, lListRange, lLc, eSorted, eSortSet, eLenSet, eBor, tBor, tYesD, noE, toB, dCmp, dSub, dNeg, dInt, dLen, dIs, dIsNot, List.map_cons, List.map_nil, List.length_cons, List.length_nil, Nat.reduceAdd, Nat.reduceSub, Nat.reduceLeDiff, List.replicate, List.cons_append, List.nil_append, List.append_nil, List.getElem?_cons_zero, List.getElem?_cons_succ, List.set_cons_zero, List.set_cons_succ, if_true, if_false, reduceIte, Bool.not_true, Bool.not_false, Bool.false_eq_true, reduceCtorEq, decide_eq_true e]
    · simp only [dIx_t0, dIx_t1, dIx_l0, dIx_l1, toItems, itemsOf, runF, runL, startE, endF, endL, R.bind_ok, R.bind_exc, R.bind_stuck, gSeq, gIf, gSet, gOwn, gRet, gRetL, gRetO, gDrop, gTgt, gT, gsC, gsN, gN, gFor, gApp, gExt, gFrz, gNil, gExc, eVar, eC, e1, e2, eA, aNil, aCons, eTup, eLst, eCall, lCall, listR, eChain, tV, tAndD, tOrD, tNotD, eAnd, eOr, eNot, eIf, eL, lDisp, lList, lRep, oNone, oSome, eSl, iSeq, iRng1, iRng2, iZipD, iEnumD, iRevD, lListRange, lLc, eSorted, eSortSet, eLenSet, eBor, tBor, tYesD, noE, toB, dCmp, dSub, dNeg, dInt, dLen, dIs, dIsNot, List.map_cons, List.map_nil, List.length_cons, List.length_nil, Nat.reduceAdd, Nat.reduceSub, Nat.reduceLeDiff, List.replicate, List.cons_append, List.nil_append, List.append_nil, List.getElem?_cons_zero, List.getElem?_cons_succ, List.set_cons_zero, List.set_cons_succ, if_true, if_false, reduceIte, Bool.not_true, Bool.not_false, Bool.false_eq_true, reduceCtorEq, decide_eq_false e]
  have key : c__law_open_2 [.val (.list (cs.map encC)), .val (.list (ds.map encX)), .no, .no, .no] = .ok ((openI ds cs).map encC) := by
    unfold c__law_open_2
    simp only [dIx_t0, dIx_t1, dIx_l0, dIx_l1, toItems, itemsOf, runF, runL, startE, endF, endL, R.bind_ok, R.bind_exc, R.bind_stuck, gSeq, gIf, gSet, gOwn, gRet, gRetL, gRetO, gDrop, gTgt, gT, gsC, gsN, gN, gFor, gApp, gExt, gFrz, gNil, gExc, eVar, eC, e1, e2, eA, aNil, aCons, eTup, eLst, eCall, lCall, listR, eChain, tV, tAndD, tOrD, tNotD, eAnd, eOr, eNot, eIf, eL, lDisp, lList, lRep, oNone, oSome, eSl, iSeq, iRng1, iRng2, iZipD, iEnumD, iRevD, lListRange, lLc, eSorted, eSortSet, eLenSet, eBor, tBor, tYesD, noE, toB, dCmp, dSub, dNeg, dInt, dLen, dIs, dIsNot, List.map_cons, List.map_nil, List.length_cons, List.length_nil, Nat.reduceAdd, Nat.reduceSub, Nat.reduceLeDiff, List.replicate, List.cons_append, List.nil_append, List.append_nil, List.getElem?_cons_zero, List.getElem?_cons_succ, List.set_cons_zero, List.set_cons_succ, if_true, if_false, reduceIte, Bool.not_true, Bool.not_false, Bool.false_eq_true, reduceCtorEq]
    rw [if_pos ⟨by rw [List.length_map]; omega, rfl⟩]
    refine noE_of (each_enc fun c hcm => ?_)
    have e' : (ds.filter fun x => !decide (cm x.1 c = x.2)).isEmpty = ds.all fun x => decide (cm x.1 c = x.2) := by
      rw [Bool.eq_iff_iff, List.isEmpty_iff, List.filter_eq_nil_iff, List.all_eq_true]
      exact forall₂_congr fun x _ => by simp
    unfold lcStep
    simp only [dIx_t0, dIx_t1, dIx_l0, dIx_l1, toItems, itemsOf, runF, runL, startE, endF, endL, R.bind_ok, R.bind_exc, R.bind_stuck, gSeq, gIf, gSet, gOwn, gRet, gRetL, gRetO, gDrop, gTgt, gT, gsC, gsN, gN, gFor, gApp, gExt, gFrz, gNil, gExc, eVar, eC, e1, e2, eA, aNil, aCons, eTup, eLst, eCall, lCall, listR, eChain, tV, tAndD, tOrD, tNotD, eAnd, eOr, eNot, eIf, eL, lDisp, lList, lRep, oNone, oSome, eSl, iSeq, iRng1, iRng2, iZipD, iEnumD, iRevD, lListRange, lLc, eSorted, eSortSet, eLenSet, eBor, tBor, tYesD, noE, toB, dCmp, dSub, dNeg, dInt, dLen, dIs, dIsNot, List.map_cons, List.map_nil, List.length_cons, List.length_nil, Nat.reduceAdd, Nat.reduceSub, Nat.reduceLeDiff, List.replicate, List.cons_append, List.nil_append, List.append_nil, List.getElem?_cons_zero, List.getElem?_cons_succ, List.set_cons_zero, List.set_cons_succ, if_true, if_false, reduceIte, Bool.not_true, Bool.not_false, Bool.false_eq_true, reduceCtorEq, wipeE, o1 c hcm, ones_nil, e']
    cases (ds.all fun x => decide (cm x.1 c = x.2)) <;> simp only [dIx_t0, dIx_t1, dIx_l0, dIx_l1, toItems, itemsOf, runF, runL, startE, endF, endL, R.bind_ok, R.bind_exc, R.bind_stuck, gSeq, gIf, gSet, gOwn, gRet, gRetL, gRetO, gDrop, gTgt, gT, gsC, gsN, gN, gFor, gApp, gExt, gFrz, gNil, gExc, eVar, eC, e1, e2, eA, aNil, aCons, eTup, eLst, eCall, lCall, listR, eChain, tV, tAndD, tOrD, tNotD, eAnd, eOr, eNot, eIf, eL, lDisp, lList, lRep, oNone, oSome, eSl, iSeq, iRng1, iRng2, iZipD, iEnumD, iRevD, lListRange, lLc, eSorted, eSortSet, eLenSet, eBor, tBor, tYesD, noE, toB, dCmp, dSub, dNeg, dInt, dLen, dIs, dIsNot, List.map_cons, List.map_nil, List.length_cons, List.length_nil, Nat.reduceAdd, Nat.reduceSub, Nat.reduceLeDiff, List.replicate, List.cons_append, List.nil_append, List.append_nil, List.getElem?_cons_zero, List.getElem?_cons_succ, List.set_cons_zero, List.set_cons_succ, if_true, if_false, reduceIte, Bool.not_true, Bool.not_false, Bool.false_eq_true, reduceCtorEq]
  unfold F__law_open g__law_open
  simp only [dIx_t0, dIx_t1, dIx_l0, dIx_l1, toItems, itemsOf, runF, runL, startE, endF, endL, R.bind_ok, R.bind_exc, R.bind_stuck, gSeq, gIf, gSet, gOwn, gRet, gRetL, gRetO, gDrop, gTgt, gT, gsC, gsN, gN, gFor, gApp, gExt, gFrz, gNil, gExc, eVar, eC, e1, e2, eA, aNil, aCons, eTup, eLst, eCall, lCall, listR, eChain, tV, tAndD, tOrD, tNotD, eAnd, eOr, eNot, eIf, eL, lDisp, lList, lRep, oNone, oSome, eSl, iSeq, iRng1, iRng2, iZipD, iEnumD, iRevD, lListRange, lLc, eSorted, eSortSet, eLenSet, eBor, tBor, tYesD, noE, toB, dCmp, dSub, dNeg, dInt, dLen, dIs, dIsNot, List.map_cons, List.map_nil, List.length_cons, List.length_nil, Nat.reduceAdd, Nat.reduceSub, Nat.reduceLeDiff, List.replicate, List.cons_append, List.nil_append, List.append_nil, List.getElem?_cons_zero, List.getElem?_cons_succ, List.set_cons_zero, List.set_cons_succ, if_true, if_false, reduceIte, Bool.not_true, Bool.not_false, Bool.false_eq_true, reduceCtorEq, key]
end W

set_option Elab.async false
set_option linter.all false
set_option maxRecDepth 100000
set_option maxHeartbeats 1000000
namespace W
open PySem PL
/-! ### the law's own: what was done -/
theorem mod_mem {α : Type} {l : List α} (g : α → D) (h : l ≠ []) (c : Int) : ∃ a ∈ l, pick (l.map g) c ((l.length : Nat) : Int) = g a := by
  have q0 : (0 : Int) < (l.length : Nat) := by
    cases l with
    | nil => exact absurd rfl h
    | cons a r => rw [List.length_cons]; omega
  have q1 : ((l.map g).length : Int) = (l.length : Nat) := by rw [List.length_map]
  obtain ⟨a, ha, e⟩ := List.mem_map.mp (pick_mem (c := c) q1 q0)
  exact ⟨a, ha, e.symm⟩
theorem law_done_step {m : Nat} (hm : Many m) {cs : List (List Int)} (hc : ∀ c ∈ cs, CaseOk m c) (hne : cs ≠ []) (ns : List Int) (at_ : Int) (h0 : 0 ≤ at_) (first : Int) (k : Int) (hk : 0 ≤ k) (ds : List Dn) (hd : ds.length < 100) (s8 s9 s10 s11 s12 : PL.Slot noObj) :
    ∃ x t8 t9 t10 t11 t12, DnOk m x ∧ g__law_done_L1 [.val (scriptD ns), .val (.int at_), .val (.int m), .val (.list (cs.map encC)), .val (.int first), .val (.list ((Ws m).map encW)), .own (ds.map encX), .val (.int k), s8, s9, s10, s11, s12] =
      .ok (.nx, [.val (scriptD ns), .val (.int at_), .val (.int m), .val (.list (cs.map encC)), .val (.int first), .val (.list ((Ws m).map encW)), .own ((ds ++ [x]).map encX), .val (.int k), t8, t9, t10, t11, t12]) := by
  have hw0 : Ws m ≠ [] := by
    have := (Ws_len hm).1
    intro z
    rw [z] at this
    simp at this
  have mx := mixed_eq ns (at_ + 1 + k) (by omega)
  obtain ⟨w, hw, i1⟩ := mod_mem encW hw0 (mixI ns (at_ + 1 + k))
  obtain ⟨c, hcm, i2⟩ := mod_mem encC hne (first / 5)
  generalize mixI ns (at_ + 1 + k) = num at mx i1
  have lw : (0 : Int) < ((Ws m).length : Nat) := by have := (Ws_len hm).1; omega
  have lc : (0 : Int) < ((cs.length : Nat) : Int) := by
    cases cs with
    | nil => exact absurd rfl hne
    | cons a r => rw [List.length_cons]; omega
  obtain ⟨gw, gs, l1, l2⟩ := goodWs hm w hw
  have wk := wsOk hm hw
  have two : ∃ v : Wg, (v = w ∨ v = swapW w) ∧ pick [encW w, encW (swapW w)] (num / 32) 2 = encW v := by
    rcases (by omega : num / 32 % 2 = 0 ∨ num / 32 % 2 = 1) with e | e
    · exact ⟨w, .inl rfl, by unfold pick; rw [e]; rfl⟩
    · exact ⟨swapW w, .inr rfl, by unfold pick; rw [e]; rfl⟩
  obtain ⟨v, hv, i3⟩ := two
  have okv : isW m (encW v) = true ∧ isW m (encW (swapW v)) = true ∧ WgOk m v := by
    rcases hv with rfl | rfl
    · exact ⟨gw, gs, wk⟩
    · exact ⟨gs, gw, wk.swap⟩
  have ca := lcame_eq okv.2.2 (hc c hcm)
  have hd' : ds.length < 100000 := by omega
  have cv := cm_val v c
  have i1' : pick ((Ws m).map encW) num (((Ws m).length : Nat) : Int) = .tuple [.tuple (w.1.map PyData.int), .tuple (w.2.map PyData.int)] := i1
  have i3' : pick [.tuple [.tuple (w.1.map PyData.int), .tuple (w.2.map PyData.int)], .tuple [.tuple (w.2.map PyData.int), .tuple (w.1.map PyData.int)]] (num / 32) 2 = encW v := i3
  by_cases hb : num / 64 % 8 = 1
  · refine ⟨(v, num / 512 % 3 - 1), .val (.int num), .val (.tuple (w.1.map PyData.int)), .val (.tuple (w.2.map PyData.int)), .val (encW v), .val (.int (num / 512 % 3 - 1)), ⟨okv.1, okv.2.1, okv.2.2, by dsimp only; omega, by dsimp only; omega⟩, ?_⟩
    have b1 : dEq (.int (num / 64 % 8)) (.int 1) = .ok (.bool true) := by rw [dEq_int, decide_eq_true hb]
    unfold g__law_done_L1
    simp only [dIx_pick, dMod, dDiv, dList, dTuple, dRev, dSl, Int.reduceLT, Int.reduceLE, Int.reduceEq, Int.reduceSub, Int.reduceAdd, and_self, true_and, and_true, and_false, false_and, Int.cast_ofNat_Int, decide_true, decide_false, Bool.true_and, Bool.false_and, Bool.and_true, Bool.and_false, dIx_t0, dIx_t1, dIx_l0, dIx_l1, toItems, itemsOf, runF, runL, startE, endF, endL, R.bind_ok, R.bind_exc, R.bind_stuck, gSeq, gIf, gSet, gOwn, gRet, gRetL, gRetO, gDrop, gTgt, gT, gsC, gsN, gN, gFor, gApp, gExt, gFrz, gNil, gExc, eVar, eC, e1, e2, eA, aNil, aCons, eTup, eLst, eCall, lCall, listR, eChain, tV, tAndD, tOrD, tNotD, eAnd, eOr, eNot, eIf, eL, lDisp, lList, lRep, oNone, oSome, eSl, iSeq, iRng1, iRng2, iZipD, iEnumD, iRevD, lListRange, lLc, eSorted, eSortSet, eLenSet, eBor, tBor, tYesD, noE, toB, dCmp, dSub, dNeg, dInt, dLen, dIs, dIsNot, List.map_cons, List.map_nil, List.length_cons, List.length_nil, Nat.reduceAdd, Nat.reduceSub, Nat.reduceLeDiff, List.replicate, List.cons_append, List.nil_append, List.append_nil, List.getElem?_cons_zero, List.getElem?_cons_succ, List.set_cons_zero, List.set_cons_succ, if_true, if_false, reduceIte, Bool.not_true, Bool.not_false, Bool.false_eq_true, reduceCtorEq, dAdd, mx, List.length_map, lw, lc, i1', i2, i3', ca, b1, hd', List.map_append, encX]
  · refine ⟨(v, cm v c), .val (.int num), .val (.tuple (w.1.map PyData.int)), .val (.tuple (w.2.map PyData.int)), .val (encW v), .val (.int (cm v c)), ⟨okv.1, okv.2.1, okv.2.2, by dsimp only; omega, by dsimp only; omega⟩, ?_⟩
    have b1 : dEq (.int (num / 64 % 8)) (.int 1) = .ok (.bool false) := by rw [dEq_int, decide_eq_false hb]
    unfold g__law_done_L1
    simp only [dIx_pick, dMod, dDiv, dList, dTuple, dRev, dSl, Int.reduceLT, Int.reduceLE, Int.reduceEq, Int.reduceSub, Int.reduceAdd, and_self, true_and, and_true, and_false, false_and, Int.cast_ofNat_Int, decide_true, decide_false, Bool.true_and, Bool.false_and, Bool.and_true, Bool.and_false, dIx_t0, dIx_t1, dIx_l0, dIx_l1, toItems, itemsOf, runF, runL, startE, endF, endL, R.bind_ok, R.bind_exc, R.bind_stuck, gSeq, gIf, gSet, gOwn, gRet, gRetL, gRetO, gDrop, gTgt, gT, gsC, gsN, gN, gFor, gApp, gExt, gFrz, gNil, gExc, eVar, eC, e1, e2, eA, aNil, aCons, eTup, eLst, eCall, lCall, listR, eChain, tV, tAndD, tOrD, tNotD, eAnd, eOr, eNot, eIf, eL, lDisp, lList, lRep, oNone, oSome, eSl, iSeq, iRng1, iRng2, iZipD, iEnumD, iRevD, lListRange, lLc, eSorted, eSortSet, eLenSet, eBor, tBor, tYesD, noE, toB, dCmp, dSub, dNeg, dInt, dLen, dIs, dIsNot, List.map_cons, List.map_nil, List.length_cons, List.length_nil, Nat.reduceAdd, Nat.reduceSub, Nat.reduceLeDiff, List.replicate, List.cons_append, List.nil_append, List.append_nil, List.getElem?_cons_zero, List.getElem?_cons_succ, List.set_cons_zero, List.set_cons_succ, if_true, if_false, reduceIte, Bool.not_true, Bool.not_false, Bool.false_eq_true, reduceCtorEq, dAdd, mx, List.length_map, lw, lc, i1', i2, i3', ca, b1, hd', List.map_append, encX]
theorem law_done_loop {m : Nat} (hm : Many m) {cs : List (List Int)} (hc : ∀ c ∈ cs, CaseOk m c) (hne : cs ≠ []) (ns : List Int) (at_ : Int) (h0 : 0 ≤ at_) (first : Int) : ∀ (ks : List Int) (ds : List Dn) (s7 s8 s9 s10 s11 s12 : PL.Slot noObj), (∀ k ∈ ks, 0 ≤ k) → (∀ x ∈ ds, DnOk m x) → ds.length + ks.length < 100 →
    ∃ (ds' : List Dn) (t7 t8 t9 t10 t11 t12 : PL.Slot noObj), (∀ x ∈ ds', DnOk m x) ∧ ds'.length = ds.length + ks.length ∧ loopF (gN 7) g__law_done_L1 (ks.map PyData.int) [.val (scriptD ns), .val (.int at_), .val (.int m), .val (.list (cs.map encC)), .val (.int first), .val (.list ((Ws m).map encW)), .own (ds.map encX), s7, s8, s9, s10, s11, s12] =
      .ok (.nx, [.val (scriptD ns), .val (.int at_), .val (.int m), .val (.list (cs.map encC)), .val (.int first), .val (.list ((Ws m).map encW)), .own (ds'.map encX), t7, t8, t9, t10, t11, t12])
  | [], ds, s7, s8, s9, s10, s11, s12, _, hd, _ => ⟨ds, s7, s8, s9, s10, s11, s12, hd, rfl, rfl⟩
  | k :: ks, ds, s7, s8, s9, s10, s11, s12, hk, hd, hl => by
    simp only [List.length_cons] at hl
    obtain ⟨x, t8, t9, t10, t11, t12, hx, es⟩ := law_done_step hm hc hne ns at_ h0 first k (hk k (List.mem_cons_self ..)) ds (by omega) s8 s9 s10 s11 s12
    obtain ⟨ds', u7, u8, u9, u10, u11, u12, h1, h2, el⟩ := law_done_loop hm hc hne ns at_ h0 first ks (ds ++ [x]) (.val (.int k)) t8 t9 t10 t11 t12 (fun q hq => hk q (List.mem_cons_of_mem _ hq)) (fun y hy => by
      rcases List.mem_append.mp hy with hy | hy
      · exact hd y hy
      · rw [List.mem_singleton] at hy
        rw [hy]
        exact hx) (by simp; omega)
    refine ⟨ds', u7, u8, u9, u10, u11, u12, h1, by simp at h2 ⊢; omega, ?_⟩
    rw [List.map_cons]
    unfold loopF
    simp only [dIx_t0, dIx_t1, dIx_l0, dIx_l1, toItems, itemsOf, runF, runL, startE, endF, endL, R.bind_ok, R.bind_exc, R.bind_stuck, gSeq, gIf, gSet, gOwn, gRet, gRetL, gRetO, gDrop, gTgt, gT, gsC, gsN, gN, gFor, gApp, gExt, gFrz, gNil, gExc, eVar, eC, e1, e2, eA, aNil, aCons, eTup, eLst, eCall, lCall, listR, eChain, tV, tAndD, tOrD, tNotD, eAnd, eOr, eNot, eIf, eL, lDisp, lList, lRep, oNone, oSome, eSl, iSeq, iRng1, iRng2, iZipD, iEnumD, iRevD, lListRange, lLc, eSorted, eSortSet, eLenSet, eBor, tBor, tYesD, noE, toB, dCmp, dSub, dNeg, dInt, dLen, dIs, dIsNot, List.map_cons, List.map_nil, List.length_cons, List.length_nil, Nat.reduceAdd, Nat.reduceSub, Nat.reduceLeDiff, List.replicate, List.cons_append, List.nil_append, List.append_nil, List.getElem?_cons_zero, List.getElem?_cons_succ, List.set_cons_zero, List.set_cons_succ, if_true, if_false, reduceIte, Bool.not_true, Bool.not_false, Bool.false_eq_true, reduceCtorEq, es]
    exact el
theorem F__law_done_eq {m : Nat} (hm : Many m) {cs : List (List Int)} (hc : ∀ c ∈ cs, CaseOk m c) (hne : cs ≠ []) (ns : List Int) (at_ : Int) (h0 : 0 ≤ at_) : ∃ ds : List Dn, (∀ x ∈ ds, DnOk m x) ∧ ds.length ≤ 3 ∧ F__law_done [scriptD ns, .int at_, .int m, .list (cs.map encC)] = .ok (ds.map encX) := by
  have mx := mixed_eq ns at_ h0
  have pv : ∃ v : Int, pick [.int 0, .int 0, .int 1, .int 2, .int 3] (mixI ns at_) 5 = .int v ∧ 0 ≤ v ∧ v ≤ 3 := by
    unfold pick
    rcases (by omega : mixI ns at_ % 5 = 0 ∨ mixI ns at_ % 5 = 1 ∨ mixI ns at_ % 5 = 2 ∨ mixI ns at_ % 5 = 3 ∨ mixI ns at_ % 5 = 4) with e | e | e | e | e <;> rw [e]
    · exact ⟨0, rfl, by decide, by decide⟩
    · exact ⟨0, rfl, by decide, by decide⟩
    · exact ⟨1, rfl, by decide, by decide⟩
    · exact ⟨2, rfl, by decide, by decide⟩
    · exact ⟨3, rfl, by decide, by decide⟩
  obtain ⟨v, ev, v0, v3⟩ := pv
  obtain ⟨ks, r1, r2, r3⟩ := rd_ints v v0
  obtain ⟨ds, t7, t8, t9, t10, t11, t12, h1, h2, el⟩ := law_done_loop hm hc hne ns at_ h0 (mixI ns at_) ks [] .no .no .no .no .no .no r2 (fun x h => (List.not_mem_nil h).elim) (by simp; omega)
  refine ⟨ds, h1, by simp at h2; omega, ?_⟩
  have rq : (-100000 ≤ v ∧ v ≤ 100000) := by omega
  simp only [List.map_nil] at el
  unfold F__law_done g__law_done
  simp only [dIx_pick, dMod, dDiv, dList, dTuple, dRev, dSl, Int.reduceLT, Int.reduceLE, Int.reduceEq, Int.reduceSub, Int.reduceAdd, and_self, true_and, and_true, and_false, false_and, Int.cast_ofNat_Int, decide_true, decide_false, Bool.true_and, Bool.false_and, Bool.and_true, Bool.and_false, dIx_t0, dIx_t1, dIx_l0, dIx_l1, toItems, itemsOf, runF, runL, startE, endF, endL, R.bind_ok, R.bind_exc, R.bind_stuck, gSeq, gIf, gSet, gOwn, gRet, gRetL, gRetO, gDrop, gTgt, gT, gsC, gsN, gN, gFor, gApp, gExt, gFrz, gNil, gExc, eVar, eC, e1, e2, eA, aNil, aCons, eTup, eLst, eCall, lCall, listR, eChain, tV, tAndD, tOrD, tNotD, eAnd, eOr, eNot, eIf, eL, lDisp, lList, lRep, oNone, oSome, eSl, iSeq, iRng1, iRng2, iZipD, iEnumD, iRevD, lListRange, lLc, eSorted, eSortSet, eLenSet, eBor, tBor, tYesD, noE, toB, dCmp, dSub, dNeg, dInt, dLen, dIs, dIsNot, List.map_cons, List.map_nil, List.length_cons, List.length_nil, Nat.reduceAdd, Nat.reduceSub, Nat.reduceLeDiff, List.replicate, List.cons_append, List.nil_append, List.append_nil, List.getElem?_cons_zero, List.getElem?_cons_succ, List.set_cons_zero, List.set_cons_succ, if_true, if_false, reduceIte, Bool.not_true, Bool.not_false, Bool.false_eq_true, reduceCtorEq, mx, pans_eq hm, ev, if_pos rq, r1, el, gRetO]
/-! ### the law's own: whether these are cases -/
theorem F__law_whole_int (i : Int) : F__law_whole [.int i] = .ok (.bool true) := by
  unfold F__law_whole g__law_whole
  simp only [dIx_t0, dIx_t1, dIx_l0, dIx_l1, toItems, itemsOf, runF, runL, startE, endF, endL, R.bind_ok, R.bind_exc, R.bind_stuck, gSeq, gIf, gSet, gOwn, gRet, gRetL, gRetO, gDrop, gTgt, gT, gsC, gsN, gN, gFor, gApp, gExt, gFrz, gNil, gExc, eVar, eC, e1, e2, eA, aNil, aCons, eTup, eLst, eCall, lCall, listR, eChain, tV, tAndD, tOrD, tNotD, eAnd, eOr, eNot, eIf, eL, lDisp, lList, lRep, oNone, oSome, eSl, iSeq, iRng1, iRng2, iZipD, iEnumD, iRevD, lListRange, lLc, eSorted, eSortSet, eLenSet, eBor, tBor, tYesD, noE, toB, dCmp, dSub, dNeg, dInt, dLen, dIs, dIsNot, List.map_cons, List.map_nil, List.length_cons, List.length_nil, Nat.reduceAdd, Nat.reduceSub, Nat.reduceLeDiff, List.replicate, List.cons_append, List.nil_append, List.append_nil, List.getElem?_cons_zero, List.getElem?_cons_succ, List.set_cons_zero, List.set_cons_succ, if_true, if_false, reduceIte, Bool.not_true, Bool.not_false, Bool.false_eq_true, reduceCtorEq, isi_int (.int i) (by simp [tyD]), isi_bool (.int i) (by simp [tyD])]
theorem tuples_1 (f : D) (m : Nat) (c : List Int) (hl : c.length ≤ 100) (s3 : PL.Slot noObj) (h3 : s3 = .no) : c__law_tuples_1 [.val f, .val (.int m), .val (encC c), s3] = .ok (c.map fun _ => .bool true) := by
  subst h3
  unfold c__law_tuples_1 encC
  simp only [dIx_t0, dIx_t1, dIx_l0, dIx_l1, toItems, itemsOf, runF, runL, startE, endF, endL, R.bind_ok, R.bind_exc, R.bind_stuck, gSeq, gIf, gSet, gOwn, gRet, gRetL, gRetO, gDrop, gTgt, gT, gsC, gsN, gN, gFor, gApp, gExt, gFrz, gNil, gExc, eVar, eC, e1, e2, eA, aNil, aCons, eTup, eLst, eCall, lCall, listR, eChain, tV, tAndD, tOrD, tNotD, eAnd, eOr, eNot, eIf, eL, lDisp, lList, lRep, oNone, oSome, eSl, iSeq, iRng1, iRng2, iZipD, iEnumD, iRevD, lListRange, lLc, eSorted, eSortSet, eLenSet, eBor, tBor, tYesD, noE, toB, dCmp, dSub, dNeg, dInt, dLen, dIs, dIsNot, List.map_cons, List.map_nil, List.length_cons, List.length_nil, Nat.reduceAdd, Nat.reduceSub, Nat.reduceLeDiff, List.replicate, List.cons_append, List.nil_append, List.append_nil, List.getElem?_cons_zero, List.getElem?_cons_succ, List.set_cons_zero, List.set_cons_succ, if_true, if_false, reduceIte, Bool.not_true, Bool.not_false, Bool.false_eq_true, reduceCtorEq]
  rw [if_pos ⟨by rw [List.length_map]; omega, rfl⟩]
  refine noE_of (each_map' fun i _ => ?_)
  unfold lcStep
  simp only [dIx_t0, dIx_t1, dIx_l0, dIx_l1, toItems, itemsOf, runF, runL, startE, endF, endL, R.bind_ok, R.bind_exc, R.bind_stuck, gSeq, gIf, gSet, gOwn, gRet, gRetL, gRetO, gDrop, gTgt, gT, gsC, gsN, gN, gFor, gApp, gExt, gFrz, gNil, gExc, eVar, eC, e1, e2, eA, aNil, aCons, eTup, eLst, eCall, lCall, listR, eChain, tV, tAndD, tOrD, tNotD, eAnd, eOr, eNot, eIf, eL, lDisp, lList, lRep, oNone, oSome, eSl, iSeq, iRng1, iRng2, iZipD, iEnumD, iRevD, lListRange, lLc, eSorted, eSortSet, eLenSet, eBor, tBor, tYesD, noE, toB, dCmp, dSub, dNeg, dInt, dLen, dIs, dIsNot, List.map_cons, List.map_nil, List.length_cons, List.length_nil, Nat.reduceAdd, Nat.reduceSub, Nat.reduceLeDiff, List.replicate, List.cons_append, List.nil_append, List.append_nil, List.getElem?_cons_zero, List.getElem?_cons_succ, List.set_cons_zero, List.set_cons_succ, if_true, if_false, reduceIte, Bool.not_true, Bool.not_false, Bool.false_eq_true, reduceCtorEq, wipeE, F__law_whole_int]
theorem all_true {α : Type} (l : List α) : dAll [.list (l.map fun _ => PyData.bool true)] = .ok (.bool true) := by
  have h := map_bool_all (fun _ => true) l
  rw [h]
  congr 2
  simp
theorem tuples_loop {m : Nat} (f : D) : ∀ (cs : List (List Int)) (s2 : PL.Slot noObj), (∀ c ∈ cs, CaseOk m c) → m ≤ 5 → ∃ t2, loopF (gN 2) g__law_tuples_L1 (cs.map encC) [.val f, .val (.int m), s2, .no] = .ok (.nx, [.val f, .val (.int m), t2, .no])
  | [], s2, _, _ => ⟨s2, rfl⟩
  | c :: cs, s2, h, hm => by
    obtain ⟨t2, e⟩ := tuples_loop f cs (.val (encC c)) (fun d hd => h d (List.mem_cons_of_mem _ hd)) hm
    have hc := h c (List.mem_cons_self ..)
    have q1 := tuples_1 f m c (by rw [hc.1]; omega) .no rfl
    have q2 : dLen [encC c] = .ok (.int m) := by
      simp only [encC, dLen, itemsOf, List.length_map, hc.1]
    have q3 : dIsi "tuple" (encC c) = .ok (.bool true) := isi_tuple (encC c) (by simp [encC, tyD])
    refine ⟨t2, ?_⟩
    rw [List.map_cons]
    unfold loopF g__law_tuples_L1
    unfold g__law_tuples_L1 at e
    simp only [R.bind_ok, gIf, gN, noE, tOrD, tNotD, tV, e1, e2, eA, aCons, aNil, eVar, eL, List.set_cons_succ, List.set_cons_zero, List.getElem?_cons_succ, List.getElem?_cons_zero, q3, q2, toB, Bool.not_true, Bool.false_eq_true, if_false, dNe_int, decide_true, q1, all_true, gNil]
    exact e
theorem F__law_tuples_eq {m : Nat} (hm : m ≤ 5) {cs : List (List Int)} (h : ∀ c ∈ cs, CaseOk m c) : F__law_tuples [.list (cs.map encC), .int m] = .ok (.bool true) := by
  obtain ⟨t2, e⟩ := tuples_loop (m := m) (.list (cs.map encC)) cs .no h hm
  unfold F__law_tuples g__law_tuples
  simp only [dIx_t0, dIx_t1, dIx_l0, dIx_l1, toItems, itemsOf, runF, runL, startE, endF, endL, R.bind_ok, R.bind_exc, R.bind_stuck, gSeq, gIf, gSet, gOwn, gRet, gRetL, gRetO, gDrop, gTgt, gT, gsC, gsN, gN, gFor, gApp, gExt, gFrz, gNil, gExc, eVar, eC, e1, e2, eA, aNil, aCons, eTup, eLst, eCall, lCall, listR, eChain, tV, tAndD, tOrD, tNotD, eAnd, eOr, eNot, eIf, eL, lDisp, lList, lRep, oNone, oSome, eSl, iSeq, iRng1, iRng2, iZipD, iEnumD, iRevD, lListRange, lLc, eSorted, eSortSet, eLenSet, eBor, tBor, tYesD, noE, toB, dCmp, dSub, dNeg, dInt, dLen, dIs, dIsNot, List.map_cons, List.map_nil, List.length_cons, List.length_nil, Nat.reduceAdd, Nat.reduceSub, Nat.reduceLeDiff, List.replicate, List.cons_append, List.nil_append, List.append_nil, List.getElem?_cons_zero, List.getElem?_cons_succ, List.set_cons_zero, List.set_cons_succ, if_true, if_false, reduceIte, Bool.not_true, Bool.not_false, Bool.false_eq_true, reduceCtorEq, e]
end W

set_option Elab.async false
set_option linter.all false
set_option maxRecDepth 100000
set_option maxHeartbeats 2000000
namespace W
open PySem PL
/-- may be shown, its leaves short -/
def vis (t : D) : Prop := showD t = true ∧ t.leavesShort 40 = true
theorem vis_tup {xs : List D} : vis (.tuple xs) ↔ ∀ x ∈ xs, vis x := by
  unfold vis
  rw [showD, PyData.leavesShort, showDs_iff, shortAll_iff]
  exact ⟨fun h x hx => ⟨h.1 x hx, h.2 x hx⟩, fun h => ⟨fun x hx => (h x hx).1, fun x hx => (h x hx).2⟩⟩
theorem vis_lst {xs : List D} : vis (.list xs) ↔ ∀ x ∈ xs, vis x := by
  unfold vis
  rw [showD, PyData.leavesShort, showDs_iff, shortAll_iff]
  exact ⟨fun h x hx => ⟨h.1 x hx, h.2 x hx⟩, fun h => ⟨fun x hx => (h x hx).1, fun x hx => (h x hx).2⟩⟩
theorem vis_none : vis .none := ⟨rfl, rfl⟩
theorem vis_bool (b : Bool) : vis (.bool b) := ⟨rfl, rfl⟩
theorem vis_int {i : Int} (h : i.natAbs < 10 ^ 12) : vis (.int i) := ⟨(little_int (n := 0) h).1, (little_int (n := 0) h).2.1⟩
theorem vis_dict : vis (.dict []) := ⟨rfl, rfl⟩
theorem vis_str {s : Str} (h : showD (.str s) = true) (h2 : (PyData.str s).leavesShort 40 = true) : vis (.str s) := ⟨h, h2⟩
theorem dp_str (s : Str) : (PyData.str s).depth = 0 := rfl
theorem vis_ints {l : List Int} (h : ∀ i ∈ l, i.natAbs < 10 ^ 12) : ∀ x ∈ l.map PyData.int, vis x := fun x hx => by
  obtain ⟨i, hi, rfl⟩ := List.mem_map.mp hx
  exact vis_int (h i hi)
theorem bk_ints : ∀ l : List Int, PyData.bulkAll (l.map PyData.int) = l.length
  | [] => rfl
  | i :: l => by rw [List.map_cons, PyData.bulkAll, bk_ints l, List.length_cons]; simp [PyData.bulk]; omega
theorem dp_ints : ∀ l : List Int, PyData.depthAll (l.map PyData.int) = 0
  | [] => rfl
  | i :: l => by rw [List.map_cons, PyData.depthAll, dp_ints l]; simp [PyData.depth]
/-- sizes: bulk and depth -/
def sz (n d : Nat) (t : D) : Prop := vis t ∧ t.bulk ≤ n ∧ t.depth ≤ d
theorem vis2 {a b : D} (ha : vis a) (hb : vis b) : ∀ x ∈ [a, b], vis x := fun x hx => by
  simp only [List.mem_cons, List.not_mem_nil, or_false] at hx
  rcases hx with rfl | rfl <;> assumption
theorem vis3 {a b c : D} (ha : vis a) (hb : vis b) (hc : vis c) : ∀ x ∈ [a, b, c], vis x := fun x hx => by
  simp only [List.mem_cons, List.not_mem_nil, or_false] at hx
  rcases hx with rfl | rfl | rfl <;> assumption
theorem vis4 {a b c d : D} (ha : vis a) (hb : vis b) (hc : vis c) (hd : vis d) : ∀ x ∈ [a, b, c, d], vis x := fun x hx => by
  simp only [List.mem_cons, List.not_mem_nil, or_false] at hx
  rcases hx with rfl | rfl | rfl | rfl <;> assumption
theorem vis1 {a : D} (ha : vis a) : ∀ x ∈ [a], vis x := fun x hx => by
  simp only [List.mem_cons, List.not_mem_nil, or_false] at hx
  rcases hx with rfl
  exact ha
theorem sz_str {t : D} {n d : Nat} (h : sz n d t) (hn : n ≤ 90000) (hd : d ≤ 60) : dStr [t] = .ok (.str (strOfD t)) := by
  have h1 := PyData.shown_le_bulk 40 (by decide) t h.1.2
  have h2 := h.2.1
  have h3 := h.2.2
  simp only [dStr]
  rw [h.1.1, decide_eq_true (show t.depth ≤ 60 by omega), decide_eq_true (show t.shown.length ≤ 4000000 by omega)]
  rfl
theorem sz_up {n d n' d' : Nat} {t : D} (h : sz n d t) (a : n ≤ n') (b : d ≤ d') : sz n' d' t := ⟨h.1, Nat.le_trans h.2.1 a, Nat.le_trans h.2.2 b⟩
theorem sz_tup {n d N dd : Nat} {xs : List D} (h : ∀ x ∈ xs, sz n d x) (hl : (n + 1) * xs.length ≤ N) (hd : d + 1 ≤ dd) : sz N dd (.tuple xs) := by
  refine ⟨vis_tup.mpr fun x hx => (h x hx).1, ?_, ?_⟩
  · rw [PyData.bulk]
    exact Nat.le_trans (bulkAll_le fun x hx => (h x hx).2.1) hl
  · rw [PyData.depth]
    exact Nat.le_trans (Nat.succ_le_succ (depthAll_le fun x hx => (h x hx).2.2)) hd
theorem sz_lst {n d N dd : Nat} {xs : List D} (h : ∀ x ∈ xs, sz n d x) (hl : (n + 1) * xs.length ≤ N) (hd : d + 1 ≤ dd) : sz N dd (.list xs) := by
  refine ⟨vis_lst.mpr fun x hx => (h x hx).1, ?_, ?_⟩
  · rw [PyData.bulk]
    exact Nat.le_trans (bulkAll_le fun x hx => (h x hx).2.1) hl
  · rw [PyData.depth]
    exact Nat.le_trans (Nat.succ_le_succ (depthAll_le fun x hx => (h x hx).2.2)) hd
theorem sz_two {n d n2 d2 N dd : Nat} {a b : D} (ha : sz n d a) (hb : sz n2 d2 b) (hl : n + n2 + 2 ≤ N) (h1 : d + 1 ≤ dd) (h2 : d2 + 1 ≤ dd) : sz N dd (.tuple [a, b]) := by
  obtain ⟨a1, a2, a3⟩ := ha
  obtain ⟨b1, b2, b3⟩ := hb
  exact ⟨vis_tup.mpr (vis2 a1 b1), by simp only [PyData.bulk, PyData.bulkAll]; omega, by simp only [PyData.depth, PyData.depthAll]; omega⟩
theorem sz_int {n d : Nat} {i : Int} (h : i.natAbs < 10 ^ 12) : sz n d (.int i) := ⟨vis_int h, by simp [PyData.bulk], by simp [PyData.depth]⟩
theorem sz_none {n d : Nat} : sz n d .none := ⟨vis_none, by simp [PyData.bulk], by simp [PyData.depth]⟩
theorem sz_bool {n d : Nat} (b : Bool) : sz n d (.bool b) := ⟨vis_bool b, by simp [PyData.bulk], by simp [PyData.depth]⟩
theorem sz_dict {n d : Nat} : sz n (d + 1) (.dict []) := ⟨vis_dict, by simp [PyData.bulk, PyData.bulkKv], by simp [PyData.depth, PyData.depthKv]⟩
end W

set_option Elab.async false
set_option linter.all false
set_option maxRecDepth 100000
set_option maxHeartbeats 1000000
namespace W
open PySem PL
/-! ### what were no weighings that were done -/
structure BadX (m : Nat) (b : D) : Prop where
  exc : F_need_done [.int m, b] = .exc 3
  s : sz 4000 20 b
def gd0 : D := .tuple [.tuple [.int 0], .tuple [.int 1]]
def odds : List D := [.none, gd0, .tuple [gd0], .tuple [gd0, .int 2], .tuple [gd0, .int (-2)], .tuple [gd0, .bool true], .tuple [gd0, .none], .tuple [gd0, .str (Str.ofString "0")],
  .list [gd0, .int 0], .tuple [gd0, .int 0, .int 0], .tuple [.tuple [.tuple [.int 0], .tuple [.int 0]], .int 0], .tuple [.tuple [.tuple [.int 0, .int 1], .tuple [.int 1]], .int 0], .tuple [.tuple [.list [.int 0], .list [.int 1]], .int 0],
  .tuple [.tuple [.tuple [.int 0], .tuple [.int 5]], .int 0], .tuple [.str (Str.ofString "01"), .int 0], .tuple [.tuple [], .int 0],
  .tuple [.tuple [.tuple [.int 0]], .int 0], .tuple [.tuple [.tuple [], .tuple []], .int 0], .tuple [.dict [], .int 0], .int 5, .tuple [gd0, .list [.int 0]]]
def askWB (a : D) : Bool := match a with
  | .dict [] => true
  | .tuple xs => a.canLay0 && (decide (a.depth ≤ 61) && xs.all fun y => match y with
    | .tuple ys => decide (ys.length ≤ 100000)
    | _ => true)
  | a => a.canLay0 && decide (a.depth ≤ 61)
theorem askWB_ok {a : D} (h : askWB a = true) : askW a := by
  unfold askWB at h
  split at h
  · exact .inr rfl
  · simp only [Bool.and_eq_true, decide_eq_true_eq, List.all_eq_true] at h
    refine .inl ⟨⟨h.1, h.2.1⟩, fun xs e ys hy => ?_⟩
    cases e
    simpa using h.2.2 _ hy
  · rename_i a n1 n2
    simp only [Bool.and_eq_true, decide_eq_true_eq] at h
    exact .inl ⟨⟨h.1, h.2⟩, fun xs e => absurd e (n2 xs)⟩
def askXB (t : D) : Bool := (tyD t).isSome && match t with
  | .tuple [a, b] => askWB a && (tyD b).isSome
  | _ => true
theorem some_ne {α : Type} {o : Option α} (h : o.isSome = true) : o ≠ none := fun z => by rw [z] at h; cases h
theorem askXB_ok {t : D} (h : askXB t = true) : askX t := by
  unfold askXB at h
  rw [Bool.and_eq_true] at h
  refine ⟨some_ne h.1, fun a b e => ?_⟩
  subst e
  have h2 := Bool.and_eq_true_iff.mp h.2
  exact ⟨askWB_ok h2.1, some_ne h2.2⟩
def oddB (t : D) : Bool := askXB t && (!isDnB 2 t && (!isDnB 3 t && (!isDnB 4 t && (!isDnB 5 t && ((showD t && t.leavesShort 40) && (decide (t.bulk ≤ 64) && decide (t.depth ≤ 4)))))))
theorem odds_all : odds.all oddB = true := by decide +kernel
theorem odds_ok {m : Nat} (hm : Many m) {t : D} (h : t ∈ odds) : isDnB m t = false ∧ askX t ∧ sz 64 4 t := by
  have q := List.all_eq_true.mp odds_all t h
  simp only [oddB, Bool.and_eq_true, Bool.not_eq_true', decide_eq_true_eq] at q
  obtain ⟨q0, q2, q3, q4, q5, q6, q7⟩ := q
  refine ⟨?_, askXB_ok q0, q6, q7⟩
  rcases hm with rfl | rfl | rfl | rfl
  · exact q2
  · exact q3
  · exact q4
  · exact q5
theorem sz_encX {m : Nat} (hm : Many m) {x : Dn} (h : DnOk m x) : sz 64 4 (encX x) := by
  have i1 : ∀ l : List Int, (∀ i ∈ l, 0 ≤ i ∧ i < (m : Int)) → l.length ≤ 30 → sz 30 1 (.tuple (l.map PyData.int)) := fun l hl hn =>
    sz_tup (n := 0) (d := 0) (fun y hy => by
      obtain ⟨i, hi, rfl⟩ := List.mem_map.mp hy
      have := hl i hi
      have := many25 hm
      exact sz_int (by omega)) (by rw [List.length_map]; omega) (by omega)
  have a := i1 _ h.wg.1 h.wg.2.2.1
  have b := i1 _ h.wg.2.1 h.wg.2.2.2
  have c : sz 62 2 (encW x.1) := sz_two a b (by omega) (by omega) (by omega)
  exact sz_two (n2 := 0) (d2 := 0) c (sz_int (by have := h.lo; have := h.hi; omega)) (by omega) (by omega) (by omega)
theorem bad_flat {m : Nat} {b : D} (ht : tyD b ≠ none) (hl : ∀ xs, b ≠ .list xs) (hs : sz 4000 20 b) : BadX m b := by
  refine ⟨?_, hs⟩
  rw [F_need_done_gen ht fun xs e => absurd e (hl xs)]
  have e : goodDone m b = false := by
    unfold goodDone
    split
    · rename_i xs
      exact absurd rfl (hl xs)
    · rfl
  rw [e]
  rfl
theorem put_odd {m : Nat} (hm : Many m) {ds : List Dn} (h : ∀ x ∈ ds, DnOk m x) {a b : List D} {t : D} (ha : ∀ y ∈ a, y ∈ ds.map encX) (hb : ∀ y ∈ b, y ∈ ds.map encX) (la : a.length ≤ 3) (lb : b.length ≤ 3) (ht : t ∈ odds) : BadX m (.list (a ++ [t] ++ b)) := by
  obtain ⟨n1, n2, n3⟩ := odds_ok hm ht
  have mem : ∀ y ∈ a ++ [t] ++ b, y ∈ ds.map encX ∨ y = t := fun y hy => by
    simp only [List.mem_append, List.mem_singleton] at hy
    rcases hy with (hy | hy) | hy
    · exact .inl (ha y hy)
    · exact .inr hy
    · exact .inl (hb y hy)
  refine ⟨?_, ?_⟩
  · rw [F_need_done_gen (by simp [tyD]) fun xs e _ y hy => ?_]
    · have e : goodDone m (.list (a ++ [t] ++ b)) = false := by
        have e2 : (a ++ [t] ++ b).all (isDnB m) = false := by
          rw [← Bool.not_eq_true]
          intro z
          rw [List.all_eq_true.mp z t (by simp)] at n1
          cases n1
        simp only [goodDone, e2, Bool.and_false]
      rw [e]
      rfl
    · cases e
      rcases mem y hy with hy | rfl
      · obtain ⟨x, hx, rfl⟩ := List.mem_map.mp hy
        exact askX_enc (h x hx)
      · exact n2
  · refine sz_lst (n := 64) (d := 4) (fun y hy => ?_) ?_ (by omega)
    · rcases mem y hy with hy | rfl
      · obtain ⟨x, hx, rfl⟩ := List.mem_map.mp hy
        exact sz_encX hm (h x hx)
      · exact n3
    · simp only [List.length_append, List.length_cons, List.length_nil]
      omega
theorem cut_lo (xs : List D) {i : Int} (h0 : 0 ≤ i) (h : i ≤ xs.length) : cutD xs none (some i) = xs.take i.toNat := by
  obtain ⟨k, rfl⟩ := Int.eq_ofNat_of_zero_le h0
  exact cutD_take xs k (by omega)
theorem cut_hi (xs : List D) {i : Int} (h0 : 0 ≤ i) (h : i ≤ xs.length) : cutD xs (some i) none = xs.drop i.toNat := by
  obtain ⟨k, rfl⟩ := Int.eq_ofNat_of_zero_le h0
  unfold cutD
  rw [HT.sIx_none, HT.sIx_nat, Nat.min_eq_left (by omega)]
  rw [List.take_of_length_le (by rw [List.length_drop]; omega)]
  rfl
def many21 : D := .list (List.replicate 21 (.tuple [gd0, .int 0]))
theorem many21_bad {m : Nat} : BadX m many21 := by
  refine ⟨?_, ?_⟩
  · rw [F_need_done_gen (by simp [many21, tyD]) fun xs e hl => by
      cases e
      simp at hl]
    rfl
  · unfold sz vis
    decide +kernel
def wholes (ds : List Dn) : List D := [.none, .tuple (ds.map encX ++ [.tuple [gd0, .int 0]]), .dict [], .str (Str.ofString "01"), .int 5, many21, gd0]
theorem wholes_bad {m : Nat} (hm : Many m) {ds : List Dn} (h : ∀ x ∈ ds, DnOk m x) (hl : ds.length ≤ 3) {b : D} (hb : b ∈ wholes ds) : BadX m b := by
  have s0 : sz 64 4 (.tuple [gd0, .int 0]) := by
    unfold sz vis
    decide +kernel
  unfold wholes at hb
  simp only [List.mem_cons, List.not_mem_nil, or_false] at hb
  rcases hb with rfl | rfl | rfl | rfl | rfl | rfl | rfl
  · exact bad_flat (by simp [tyD]) (fun xs e => by cases e) sz_none
  · refine bad_flat (by simp [tyD]) (fun xs e => by cases e) (sz_tup (n := 64) (d := 4) (fun y hy => ?_) ?_ (by omega))
    · rcases List.mem_append.mp hy with hy | hy
      · obtain ⟨x, hx, rfl⟩ := List.mem_map.mp hy
        exact sz_encX hm (h x hx)
      · rw [List.mem_singleton] at hy
        rw [hy]
        exact s0
    · simp only [List.length_append, List.length_map, List.length_cons, List.length_nil]
      omega
  · exact bad_flat (by simp [tyD]) (fun xs e => by cases e) (sz_dict (d := 19))
  · exact bad_flat (by simp [tyD]) (fun xs e => by cases e) (by unfold sz vis; decide +kernel)
  · exact bad_flat (by simp [tyD]) (fun xs e => by cases e) (sz_int (by decide))
  · exact many21_bad
  · exact bad_flat (by simp [tyD, gd0]) (fun xs e => by cases e) (by unfold sz vis; decide +kernel)
end W

set_option Elab.async false
set_option linter.all false
set_option maxRecDepth 100000
set_option maxHeartbeats 4000000
namespace W
open PySem PL
theorem rep21 (x : D) : dMul (.list [x]) (.int 21) = .ok (.list (List.replicate 21 x)) := by
  simp only [dMul]
  rw [if_pos ⟨by decide, by decide, by simp⟩]
  rfl
theorem dAdd_lists {xs ys : List D} (h : xs.length + ys.length ≤ 100000) : dAdd (.list xs) (.list ys) = .ok (.list (xs ++ ys)) := by simp only [dAdd, if_pos h]
theorem wrong_done_ok {m : Nat} (hm : Many m) {ds : List Dn} (h : ∀ x ∈ ds, DnOk m x) (hl : ds.length ≤ 3) (c : Int) : ∃ b, F__law_wrong_done [.int c, .list (ds.map encX)] = .ok b ∧ BadX m b := by
  have q0 : (0 : Int) < (ds.length : Int) + 1 := by omega
  have a0 := Int.emod_nonneg (c / 4) (show (ds.length : Int) + 1 ≠ 0 by omega)
  have a1 := Int.emod_lt_of_pos (c / 4) q0
  have c1 := cut_lo (ds.map encX) a0 (by rw [List.length_map]; omega)
  have c2 := cut_hi (ds.map encX) a0 (by rw [List.length_map]; omega)
  have take_mem : ∀ k, ∀ y ∈ (ds.map encX).take k, y ∈ ds.map encX := fun k y hy => List.mem_of_mem_take hy
  have drop_mem : ∀ k, ∀ y ∈ (ds.map encX).drop k, y ∈ ds.map encX := fun k y hy => List.mem_of_mem_drop hy
  have take_len : ∀ k, ((ds.map encX).take k).length ≤ 3 := fun k => by rw [List.length_take, List.length_map]; omega
  have drop_len : ∀ k, ((ds.map encX).drop k).length ≤ 3 := fun k => by rw [List.length_drop, List.length_map]; omega
  have d1 : ∀ k x, dAdd (.list ((ds.map encX).take k)) (.list [x]) = .ok (.list ((ds.map encX).take k ++ [x])) := fun k x => dAdd_lists (by have := take_len k; simp only [List.length_cons, List.length_nil]; omega)
  have d2 : ∀ k x j, dAdd (.list ((ds.map encX).take k ++ [x])) (.list ((ds.map encX).drop j)) = .ok (.list ((ds.map encX).take k ++ [x] ++ (ds.map encX).drop j)) := fun k x j => dAdd_lists (by
    have := take_len k
    have := drop_len j
    simp only [List.length_append, List.length_cons, List.length_nil]
    omega)
  have d3 : ∀ x, dAdd (.list (ds.map encX)) (.list [x]) = .ok (.list (ds.map encX ++ [x])) := fun x => dAdd_lists (by rw [List.length_map]; simp only [List.length_cons, List.length_nil]; omega)
  have d4 : dAdd (.int (ds.length : Int)) (.int 1) = .ok (.int ((ds.length : Int) + 1)) := rfl
  have b1 : dAdd (.list [.none, gd0, .tuple [gd0], .tuple [gd0, .int 2], .tuple [gd0, .int (-2)], .tuple [gd0, .bool true], .tuple [gd0, .none], .tuple [gd0, .str (Str.ofString "0")]])
      (.list [.list [gd0, .int 0], .tuple [gd0, .int 0, .int 0], .tuple [.tuple [.tuple [.int 0], .tuple [.int 0]], .int 0], .tuple [.tuple [.tuple [.int 0, .int 1], .tuple [.int 1]], .int 0], .tuple [.tuple [.list [.int 0], .list [.int 1]], .int 0]]) = .ok (.list (odds.take 13)) := rfl
  have b2 : dAdd (.list (odds.take 13)) (.list [.tuple [.tuple [.tuple [.int 0], .tuple [.int 5]], .int 0], .tuple [.str (Str.ofString "01"), .int 0], .tuple [.tuple [], .int 0]]) = .ok (.list (odds.take 16)) := rfl
  have b3 : dAdd (.list (odds.take 16)) (.list [.tuple [.tuple [.tuple [.int 0]], .int 0], .tuple [.tuple [.tuple [], .tuple []], .int 0], .tuple [.dict [], .int 0], .int 5, .tuple [gd0, .list [.int 0]]]) = .ok (.list odds) := rfl
  have b4 : dMul (.list [.tuple [gd0, .int 0]]) (.int 21) = .ok many21 := rep21 (.tuple [gd0, .int 0])
  have n2 : dNeg (.int 2) = .ok (.int (-2)) := rfl
  have g0 : PyData.tuple [.tuple [.int 0], .tuple [.int 1]] = gd0 := rfl
  have p7 : dIx (.list (wholes ds)) (.int (c / 4 % 7)) = .ok (pick (wholes ds) (c / 4) 7) := dIx_pick rfl (by decide)
  have p21 : dIx (.list odds) (.int (c / 16 % 21)) = .ok (pick odds (c / 16) 21) := dIx_pick rfl (by decide)
  have m7 : pick (wholes ds) (c / 4) 7 ∈ wholes ds := pick_mem rfl (by decide)
  have m21 : pick odds (c / 16) 21 ∈ odds := pick_mem rfl (by decide)
  have w0 : PyData.list [.none, .tuple (ds.map encX ++ [.tuple [gd0, .int 0]]), .dict [], .str (Str.ofString "01"), .int 5, many21, gd0] = .list (wholes ds) := rfl
  unfold F__law_wrong_done g__law_wrong_done
  by_cases hc : c % 4 = 0
  · refine ⟨pick (wholes ds) (c / 4) 7, ?_, wholes_bad hm h hl m7⟩
    simp only [dIx_t0, dIx_t1, dIx_l0, dIx_l1, toItems, itemsOf, runF, runL, startE, endF, endL, R.bind_ok, R.bind_exc, R.bind_stuck, gSeq, gIf, gSet, gOwn, gRet, gRetL, gRetO, gDrop, gTgt, gT, gsC, gsN, gN, gFor, gApp, gExt, gFrz, gNil, gExc, eVar, eC, e1, e2, eA, aNil, aCons, eTup, eLst, eCall, lCall, listR, eChain, tV, tAndD, tOrD, tNotD, eAnd, eOr, eNot, eIf, eL, lDisp, lList, lRep, oNone, oSome, eSl, iSeq, iRng1, iRng2, iZipD, iEnumD, iRevD, lListRange, lLc, eSorted, eSortSet, eLenSet, eBor, tBor, tYesD, noE, toB, dCmp, dSub, dNeg, dInt, dLen, dIs, dIsNot, List.map_cons, List.map_nil, List.length_cons, List.length_nil, Nat.reduceAdd, Nat.reduceSub, Nat.reduceLeDiff, List.replicate, List.cons_append, List.nil_append, List.append_nil, List.getElem?_cons_zero, List.getElem?_cons_succ, List.set_cons_zero, List.set_cons_succ, if_true, if_false, reduceIte, Bool.not_true, Bool.not_false, Bool.false_eq_true, reduceCtorEq, Int.reduceNeg, g0, n2, b1, b2, b3, d3, dTuple, b4, w0, dMod, dDiv, Int.reduceLT, and_self, dEq_int, decide_eq_true hc, p7]
  · refine ⟨.list ((ds.map encX).take (c / 4 % ((ds.length : Int) + 1)).toNat ++ [pick odds (c / 16) 21] ++ (ds.map encX).drop (c / 4 % ((ds.length : Int) + 1)).toNat), ?_, put_odd hm h (take_mem _) (drop_mem _) (take_len _) (drop_len _) m21⟩
    simp only [dIx_t0, dIx_t1, dIx_l0, dIx_l1, toItems, itemsOf, runF, runL, startE, endF, endL, R.bind_ok, R.bind_exc, R.bind_stuck, gSeq, gIf, gSet, gOwn, gRet, gRetL, gRetO, gDrop, gTgt, gT, gsC, gsN, gN, gFor, gApp, gExt, gFrz, gNil, gExc, eVar, eC, e1, e2, eA, aNil, aCons, eTup, eLst, eCall, lCall, listR, eChain, tV, tAndD, tOrD, tNotD, eAnd, eOr, eNot, eIf, eL, lDisp, lList, lRep, oNone, oSome, eSl, iSeq, iRng1, iRng2, iZipD, iEnumD, iRevD, lListRange, lLc, eSorted, eSortSet, eLenSet, eBor, tBor, tYesD, noE, toB, dCmp, dSub, dNeg, dInt, dLen, dIs, dIsNot, List.map_cons, List.map_nil, List.length_cons, List.length_nil, Nat.reduceAdd, Nat.reduceSub, Nat.reduceLeDiff, List.replicate, List.cons_append, List.nil_append, List.append_nil, List.getElem?_cons_zero, List.getElem?_cons_succ, List.set_cons_zero, List.set_cons_succ, if_true, if_false, reduceIte, Bool.not_true, Bool.not_false, Bool.false_eq_true, reduceCtorEq, Int.reduceNeg, g0, n2, b1, b2, b3, d3, dTuple, b4, w0, dMod, dDiv, Int.reduceLT, and_self, dEq_int, decide_eq_false hc, List.length_map, d4, q0, dSl, c1, c2, p21, d1, d2]
end W

set_option Elab.async false
set_option linter.all false
set_option maxRecDepth 100000
set_option maxHeartbeats 1000000
namespace W
open PySem PL
/-! ### the law's own: refused -/
theorem hdE3 : hdE "done value" 3 = some (.bool true) := by rfl
theorem F__law_refused_eq {m : Nat} (hm : Many m) {cs : List (List Int)} (hc : CasesOk m cs) {b : D} (h : BadX m b) (w : Int) (h0 : 0 ≤ w) (h3 : w < 3) : F__law_refused [.int w, .int m, .list (cs.map encC), b] = .ok (.bool true) := by
  have a1 := F_still_open_bad hm hc h.exc
  have a4 : F_told [.int m, .list (cs.map encC), b] = .exc 3 := by unfold F_told g_told; simp only [dIx_t0, dIx_t1, dIx_l0, dIx_l1, toItems, itemsOf, runF, runL, startE, endF, endL, R.bind_ok, R.bind_exc, R.bind_stuck, gSeq, gIf, gSet, gOwn, gRet, gRetL, gRetO, gDrop, gTgt, gT, gsC, gsN, gN, gFor, gApp, gExt, gFrz, gNil, gExc, eVar, eC, e1, e2, eA, aNil, aCons, eTup, eLst, eCall, lCall, listR, eChain, tV, tAndD, tOrD, tNotD, eAnd, eOr, eNot, eIf, eL, lDisp, lList, lRep, oNone, oSome, eSl, iSeq, iRng1, iRng2, iZipD, iEnumD, iRevD, lListRange, lLc, eSorted, eSortSet, eLenSet, eBor, tBor, tYesD, noE, toB, dCmp, dSub, dNeg, dInt, dLen, dIs, dIsNot, List.map_cons, List.map_nil, List.length_cons, List.length_nil, Nat.reduceAdd, Nat.reduceSub, Nat.reduceLeDiff, List.replicate, List.cons_append, List.nil_append, List.append_nil, List.getElem?_cons_zero, List.getElem?_cons_succ, List.set_cons_zero, List.set_cons_succ, if_true, if_false, reduceIte, Bool.not_true, Bool.not_false, Bool.false_eq_true, reduceCtorEq, a1]
  have a5 : F_least [.int m, .list (cs.map encC), b] = .exc 3 := by unfold F_least g_least; simp only [dIx_t0, dIx_t1, dIx_l0, dIx_l1, toItems, itemsOf, runF, runL, startE, endF, endL, R.bind_ok, R.bind_exc, R.bind_stuck, gSeq, gIf, gSet, gOwn, gRet, gRetL, gRetO, gDrop, gTgt, gT, gsC, gsN, gN, gFor, gApp, gExt, gFrz, gNil, gExc, eVar, eC, e1, e2, eA, aNil, aCons, eTup, eLst, eCall, lCall, listR, eChain, tV, tAndD, tOrD, tNotD, eAnd, eOr, eNot, eIf, eL, lDisp, lList, lRep, oNone, oSome, eSl, iSeq, iRng1, iRng2, iZipD, iEnumD, iRevD, lListRange, lLc, eSorted, eSortSet, eLenSet, eBor, tBor, tYesD, noE, toB, dCmp, dSub, dNeg, dInt, dLen, dIs, dIsNot, List.map_cons, List.map_nil, List.length_cons, List.length_nil, Nat.reduceAdd, Nat.reduceSub, Nat.reduceLeDiff, List.replicate, List.cons_append, List.nil_append, List.append_nil, List.getElem?_cons_zero, List.getElem?_cons_succ, List.set_cons_zero, List.set_cons_succ, if_true, if_false, reduceIte, Bool.not_true, Bool.not_false, Bool.false_eq_true, reduceCtorEq, a1]
  unfold F__law_refused tryF g__law_refused
  rcases (by omega : w = 0 ∨ w = 1 ∨ w = 2) with rfl | rfl | rfl
  all_goals simp only [dIx_pick, dMod, dDiv, dList, dTuple, dRev, dSl, Int.reduceLT, Int.reduceLE, Int.reduceEq, Int.reduceSub, Int.reduceAdd, and_self, true_and, and_true, and_false, false_and, Int.cast_ofNat_Int, decide_true, decide_false, Bool.true_and, Bool.false_and, Bool.and_true, Bool.and_false, dIx_t0, dIx_t1, dIx_l0, dIx_l1, toItems, itemsOf, runF, runL, startE, endF, endL, R.bind_ok, R.bind_exc, R.bind_stuck, gSeq, gIf, gSet, gOwn, gRet, gRetL, gRetO, gDrop, gTgt, gT, gsC, gsN, gN, gFor, gApp, gExt, gFrz, gNil, gExc, eVar, eC, e1, e2, eA, aNil, aCons, eTup, eLst, eCall, lCall, listR, eChain, tV, tAndD, tOrD, tNotD, eAnd, eOr, eNot, eIf, eL, lDisp, lList, lRep, oNone, oSome, eSl, iSeq, iRng1, iRng2, iZipD, iEnumD, iRevD, lListRange, lLc, eSorted, eSortSet, eLenSet, eBor, tBor, tYesD, noE, toB, dCmp, dSub, dNeg, dInt, dLen, dIs, dIsNot, List.map_cons, List.map_nil, List.length_cons, List.length_nil, Nat.reduceAdd, Nat.reduceSub, Nat.reduceLeDiff, List.replicate, List.cons_append, List.nil_append, List.append_nil, List.getElem?_cons_zero, List.getElem?_cons_succ, List.set_cons_zero, List.set_cons_succ, if_true, if_false, reduceIte, Bool.not_true, Bool.not_false, Bool.false_eq_true, reduceCtorEq, dEq_int, a1, a4, a5, hdE3]
/-! ### what is open, the weighings told otherwise -/
def turnX (x : Dn) : Dn := (swapW x.1, 0 - x.2)
theorem turnX_ok {m : Nat} {x : Dn} (h : DnOk m x) : DnOk m (turnX x) := ⟨h.s, h.w, h.wg.swap, by have := h.hi; unfold turnX; dsimp only; omega, by have := h.lo; unfold turnX; dsimp only; omega⟩
theorem open_turn (ds : List Dn) (cs : List (List Int)) : openI (ds.reverse.map turnX) cs = openI ds cs := by
  unfold openI
  refine List.filter_congr fun c _ => ?_
  rw [List.all_map, List.all_reverse]
  congr 1
  funext x
  simp only [Function.comp_def, turnX, cm_swap]
  rw [Bool.eq_iff_iff, decide_eq_true_eq, decide_eq_true_eq]
  omega
theorem open_more (ds es : List Dn) (cs : List (List Int)) (h : openI es cs = openI ds cs) : openI (es ++ ds) cs = openI ds cs := by
  unfold openI at *
  have e : cs.filter (fun c => (es ++ ds).all fun x => decide (cm x.1 c = x.2)) = (cs.filter fun c => es.all fun x => decide (cm x.1 c = x.2)).filter fun c => ds.all fun x => decide (cm x.1 c = x.2) := by
    rw [List.filter_filter]
    refine List.filter_congr fun c _ => ?_
    rw [List.all_append, Bool.and_comm]
  rw [e, h, List.filter_filter]
  refine List.filter_congr fun c _ => ?_
  rw [Bool.and_self]
theorem open_rep (x : Dn) (n : Nat) (cs : List (List Int)) : openI (List.replicate (n + 1) x) cs = openI [x] cs := by
  unfold openI
  refine List.filter_congr fun c _ => ?_
  rw [List.all_replicate]
  simp
theorem open_nil (cs : List (List Int)) : openI [] cs = cs := by
  unfold openI
  simp
end W

set_option Elab.async false
set_option linter.all false
set_option maxRecDepth 100000
set_option maxHeartbeats 4000000
namespace W
open PySem PL
def gd : Dn := (([0], [1]), 0)
theorem gd_ok {m : Nat} (hm : Many m) : DnOk m gd := by
  rcases hm with rfl | rfl | rfl | rfl
  all_goals exact ⟨by decide +kernel, by decide +kernel, okW_of (by decide +kernel), by decide, by decide⟩
theorem encX_sh (x : Dn) : sh 3 (encX x) := sh_tuple (n := 2) fun y hy => by
  simp only [List.mem_cons, List.not_mem_nil, or_false] at hy
  rcases hy with rfl | rfl
  · exact encW_sh x.1
  · exact sh_int _
theorem both_sh (cs : List (List Int)) (ds : List Dn) : sh 5 (.list [.list (cs.map encC), .list (ds.map encX)]) := sh_list (n := 4) fun y hy => by
  simp only [List.mem_cons, List.not_mem_nil, or_false] at hy
  rcases hy with rfl | rfl
  · exact sh_up (listE_sh cs) (by decide)
  · exact sh_list fun x hx => by
      obtain ⟨z, _, rfl⟩ := List.mem_map.mp hx
      exact encX_sh z
theorem both_ne (cs : List (List Int)) (ds : List Dn) : dNe (.list [.list (cs.map encC), .list (ds.map encX)]) (.list [.list (cs.map encC), .list (ds.map encX)]) = .ok (.bool false) := by
  rw [dNe_sh (both_sh cs ds) (both_sh cs ds), SeqAt.eqv_refl _ (both_sh cs ds).1]
  rfl
/-- what the law's names hold when the pair is made -/
def held (ns : List Int) (m : Nat) (cs : List (List Int)) (ds : List Dn) (fo tu ba ke oft ev we du wh : PL.Slot pinB) : PL.Env pinB :=
  [.obj (true, scriptD ns), .obj (true, .int m), .obj (true, .list (cs.map encC)), .obj (true, .list (ds.map encX)), .obj (true, .list ((openI ds cs).map encC)), .obj (false, .list [.list (cs.map encC), .list (ds.map encX)]), fo, tu, ba, ke, oft, ev, we, du, wh]
theorem law_1 (ns : List Int) (m : Nat) (cs : List (List Int)) (ds : List Dn) (hl : ds.length ≤ 3) (fo tu ba ke oft ev : PL.Slot pinB) : c_law_1 (held ns m cs ds fo tu ba ke oft ev .no .no .no) = .ok ((ds.reverse.map turnX).map encX) := by
  unfold c_law_1 held
  simp only [dIx_t0, dIx_t1, dIx_l0, dIx_l1, toItems, itemsOf, runF, runL, startE, endF, endL, R.bind_ok, R.bind_exc, R.bind_stuck, gSeq, gIf, gSet, gOwn, gRet, gRetL, gRetO, gDrop, gTgt, gT, gsC, gsN, gN, gFor, gApp, gExt, gFrz, gNil, gExc, eVar, eC, e1, e2, eA, aNil, aCons, eTup, eLst, eCall, lCall, listR, eChain, tV, tAndD, tOrD, tNotD, eAnd, eOr, eNot, eIf, eL, lDisp, lList, lRep, oNone, oSome, eSl, iSeq, iRng1, iRng2, iZipD, iEnumD, iRevD, lListRange, lLc, eSorted, eSortSet, eLenSet, eBor, tBor, tYesD, noE, toB, dCmp, dSub, dNeg, dInt, dLen, dIs, dIsNot, List.map_cons, List.map_nil, List.length_cons, List.length_nil, Nat.reduceAdd, Nat.reduceSub, Nat.reduceLeDiff, List.replicate, List.cons_append, List.nil_append, List.append_nil, List.getElem?_cons_zero, List.getElem?_cons_succ, List.set_cons_zero, List.set_cons_succ, if_true, if_false, reduceIte, Bool.not_true, Bool.not_false, Bool.false_eq_true, reduceCtorEq, eVarP]
  rw [if_pos ⟨by rw [List.length_reverse, List.length_map]; omega, rfl⟩, ← List.map_reverse, List.map_map]
  refine noE_of (each_map' fun x _ => ?_)
  unfold lcStep
  simp only [dIx_t0, dIx_t1, dIx_l0, dIx_l1, toItems, itemsOf, runF, runL, startE, endF, endL, R.bind_ok, R.bind_exc, R.bind_stuck, gSeq, gIf, gSet, gOwn, gRet, gRetL, gRetO, gDrop, gTgt, gT, gsC, gsN, gN, gFor, gApp, gExt, gFrz, gNil, gExc, eVar, eC, e1, e2, eA, aNil, aCons, eTup, eLst, eCall, lCall, listR, eChain, tV, tAndD, tOrD, tNotD, eAnd, eOr, eNot, eIf, eL, lDisp, lList, lRep, oNone, oSome, eSl, iSeq, iRng1, iRng2, iZipD, iEnumD, iRevD, lListRange, lLc, eSorted, eSortSet, eLenSet, eBor, tBor, tYesD, noE, toB, dCmp, dSub, dNeg, dInt, dLen, dIs, dIsNot, List.map_cons, List.map_nil, List.length_cons, List.length_nil, Nat.reduceAdd, Nat.reduceSub, Nat.reduceLeDiff, List.replicate, List.cons_append, List.nil_append, List.append_nil, List.getElem?_cons_zero, List.getElem?_cons_succ, List.set_cons_zero, List.set_cons_succ, if_true, if_false, reduceIte, Bool.not_true, Bool.not_false, Bool.false_eq_true, reduceCtorEq, wipeE, encX, encW, eVarP]
  rfl
theorem law_2 (ns : List Int) {m : Nat} (hm : Many m) {cs : List (List Int)} (hc : CasesOk m cs) (ds : List Dn) {b : D} (hb : BadX m b) (fo tu ke oft ev : PL.Slot pinB) : c_law_2 (held ns m cs ds fo tu (.val b) ke oft ev .no .no .no) = .ok [.bool true, .bool true, .bool true] := by
  have r := fun w h0 h3 => F__law_refused_eq hm hc hb w h0 h3
  have r0 := r 0 (by decide) (by decide)
  have r1 := r 1 (by decide) (by decide)
  have r2 := r 2 (by decide) (by decide)
  unfold c_law_2 held
  simp only [dIx_pick, dMod, dDiv, dList, dTuple, dRev, dSl, Int.reduceLT, Int.reduceLE, Int.reduceEq, Int.reduceSub, Int.reduceAdd, and_self, true_and, and_true, and_false, false_and, Int.cast_ofNat_Int, decide_true, decide_false, Bool.true_and, Bool.false_and, Bool.and_true, Bool.and_false, dIx_t0, dIx_t1, dIx_l0, dIx_l1, toItems, itemsOf, runF, runL, startE, endF, endL, R.bind_ok, R.bind_exc, R.bind_stuck, gSeq, gIf, gSet, gOwn, gRet, gRetL, gRetO, gDrop, gTgt, gT, gsC, gsN, gN, gFor, gApp, gExt, gFrz, gNil, gExc, eVar, eC, e1, e2, eA, aNil, aCons, eTup, eLst, eCall, lCall, listR, eChain, tV, tAndD, tOrD, tNotD, eAnd, eOr, eNot, eIf, eL, lDisp, lList, lRep, oNone, oSome, eSl, iSeq, iRng1, iRng2, iZipD, iEnumD, iRevD, lListRange, lLc, eSorted, eSortSet, eLenSet, eBor, tBor, tYesD, noE, toB, dCmp, dSub, dNeg, dInt, dLen, dIs, dIsNot, List.map_cons, List.map_nil, List.length_cons, List.length_nil, Nat.reduceAdd, Nat.reduceSub, Nat.reduceLeDiff, List.replicate, List.cons_append, List.nil_append, List.append_nil, List.getElem?_cons_zero, List.getElem?_cons_succ, List.set_cons_zero, List.set_cons_succ, if_true, if_false, reduceIte, Bool.not_true, Bool.not_false, Bool.false_eq_true, reduceCtorEq, eVarP, rd3, eachR, lcStep, wipeE, r0, r1, r2, List.all_cons, List.all_nil]
  rfl
end W

set_option Elab.async false
set_option linter.all false
set_option maxRecDepth 100000
set_option maxHeartbeats 4000000
namespace W
open PySem PL
theorem open_sub {ds : List Dn} {cs : List (List Int)} : ∀ c ∈ openI ds cs, c ∈ cs := fun c h => (List.mem_filter.mp h).1
theorem open_le (ds : List Dn) (cs : List (List Int)) : (openI ds cs).length ≤ cs.length := List.length_filter_le _ _
def often : List Dn := List.replicate 20 gd
theorem rep20 : dMul (.list [.tuple [.tuple [.tuple [.int 0], .tuple [.int 1]], .int 0]]) (.int 20) = .ok (.list (often.map encX)) := by rfl
theorem cut1 : cutD (often.map encX) none (some 1) = [gd].map encX := cutD_take (often.map encX) 1 (by decide)
theorem mid_ok (ns : List Int) {m : Nat} (hm : Many m) {cs : List (List Int)} (hc : CasesOk m cs) {ds : List Dn} (hd : ∀ x ∈ ds, DnOk m x) (hl : ds.length ≤ 3) :
    ∃ tu ba ke oft, g_mid (held ns m cs ds .no .no .no .no .no .no .no .no .no) = .ok (.nx, held ns m cs ds (.own ((openI ds cs).map encC ++ [.none])) tu ba ke oft (.own (cs.map encC)) .no .no .no) := by
  have m5 : m ≤ 5 := (many25 hm).2
  have lo := open_le ds cs
  have l12 := hc.le
  obtain ⟨b, w1, hb⟩ := wrong_done_ok hm hd hl (mixI ns 5)
  have dr : ∀ x ∈ ds.reverse.map turnX, DnOk m x := fun x hx => by
    obtain ⟨y, hy, rfl⟩ := List.mem_map.mp hx
    exact turnX_ok (hd y (List.mem_reverse.mp hy))
  have lr : (ds.reverse.map turnX).length ≤ 3 := by rw [List.length_map, List.length_reverse]; exact hl
  have da : ∀ x ∈ ds.reverse.map turnX ++ ds, DnOk m x := fun x hx => (List.mem_append.mp hx).elim (dr x) (hd x)
  have s1 := F_still_open_eq hm hc hd (by omega)
  have s2 := F_still_open_eq hm hc dr (by omega)
  have s3 := F_still_open_eq hm hc da (by rw [List.length_append]; omega)
  have s4 := F_still_open_eq hm hc (ds := often) (fun x hx => by rw [List.eq_of_mem_replicate hx]; exact gd_ok hm) (by decide)
  have s5 := F_still_open_eq hm hc (ds := []) (fun x hx => (List.not_mem_nil hx).elim) (by decide)
  rw [open_turn] at s2
  rw [open_more _ _ _ (open_turn ds cs), List.map_append] at s3
  rw [show openI often cs = openI [gd] cs from open_rep gd 19 cs] at s4
  rw [open_nil, List.map_nil] at s5
  have o1 : F__law_open [.list (cs.map encC), .list [encX gd]] = .ok ((openI [gd] cs).map encC) := F__law_open_eq (ds := [gd]) hc.ok (by omega) (fun x hx => by rw [List.mem_singleton.mp hx]; exact gd_ok hm) (by decide)
  have t1 := F__law_tuples_eq m5 (cs := openI ds cs) fun c hx => hc.ok c (open_sub c hx)
  have a1 : dAdd (.list ((ds.reverse.map turnX).map encX)) (.list (ds.map encX)) = .ok (.list ((ds.reverse.map turnX).map encX ++ ds.map encX)) := dAdd_lists (by simp only [List.length_map, List.length_reverse]; omega)
  have k1 := sz_str hb.s (by decide) (by decide)
  have k2 := dNe_word (strOfD b) (okS_strOfD hb.s.1.1)
  have k3 : dAll [.list [.bool true, .bool true, .bool true]] = .ok (.bool true) := rfl
  have lt : ((openI ds cs).map encC).length < 100000 := by rw [List.length_map]; omega
  have mx := mixed_eq ns 5 (by decide)
  have c1 := law_1 ns m cs ds hl (.own ((openI ds cs).map encC ++ [.none])) .no .no .no .no .no
  have c2 := law_2 ns hm hc ds hb (.own ((openI ds cs).map encC ++ [.none])) (.val (.list ((ds.reverse.map turnX).map encX))) (.val (.str (strOfD b))) .no .no
  unfold held at c1 c2
  refine ⟨.val (.list ((ds.reverse.map turnX).map encX)), .val b, .val (.str (strOfD b)), .val (.list (often.map encX)), ?_⟩
  unfold g_mid held
  simp only [dIx_t0, dIx_t1, dIx_l0, dIx_l1, toItems, itemsOf, runF, runL, startE, endF, endL, R.bind_ok, R.bind_exc, R.bind_stuck, gSeq, gIf, gSet, gOwn, gRet, gRetL, gRetO, gDrop, gTgt, gT, gsC, gsN, gN, gFor, gApp, gExt, gFrz, gNil, gExc, eVar, eC, e1, e2, eA, aNil, aCons, eTup, eLst, eCall, lCall, listR, eChain, tV, tAndD, tOrD, tNotD, eAnd, eOr, eNot, eIf, eL, lDisp, lList, lRep, oNone, oSome, eSl, iSeq, iRng1, iRng2, iZipD, iEnumD, iRevD, lListRange, lLc, eSorted, eSortSet, eLenSet, eBor, tBor, tYesD, noE, toB, dCmp, dSub, dNeg, dInt, dLen, dIs, dIsNot, List.map_cons, List.map_nil, List.length_cons, List.length_nil, Nat.reduceAdd, Nat.reduceSub, Nat.reduceLeDiff, List.replicate, List.cons_append, List.nil_append, List.append_nil, List.getElem?_cons_zero, List.getElem?_cons_succ, List.set_cons_zero, List.set_cons_succ, if_true, if_false, reduceIte, Bool.not_true, Bool.not_false, Bool.false_eq_true, reduceCtorEq, eVarP, s1, isi_list (.list ((openI ds cs).map encC)) (by simp [tyD]), listE_ne, t1, both_ne, if_pos lt, c1, s2, a1, s3, mx, w1, k1, k2, c2, k3, rep20, s4, dSl, cut1, o1, s5]
/-! ### behind the end of the pair -/
theorem noLsts_all : ∀ {xs : List D}, (∀ x ∈ xs, noLst x = true) → noLsts xs = true
  | [], _ => rfl
  | x :: xs, h => by
    rw [noLsts, h x (List.mem_cons_self ..), noLsts_all fun y hy => h y (List.mem_cons_of_mem _ hy)]
    rfl
theorem noLst_enc (c : List Int) : noLst (encC c) = true := by
  unfold encC
  rw [noLst]
  refine noLsts_all fun x hx => ?_
  obtain ⟨i, _, rfl⟩ := List.mem_map.mp hx
  rfl
theorem noLsts_encs (cs : List (List Int)) : noLsts (cs.map encC) = true := noLsts_all fun x hx => by
  obtain ⟨c, _, rfl⟩ := List.mem_map.mp hx
  exact noLst_enc c
theorem noLsts_found (cs : List (List Int)) : noLsts (cs.map encC ++ [.none]) = true := noLsts_all fun x hx => by
  rcases List.mem_append.mp hx with hx | hx
  · obtain ⟨c, _, rfl⟩ := List.mem_map.mp hx
    exact noLst_enc c
  · rw [List.mem_singleton.mp hx]
    rfl
theorem listE_eq (cs : List (List Int)) : dEq (.list (cs.map encC)) (.list (cs.map encC)) = .ok (.bool true) := by
  rw [dEq_sh (listE_sh cs) (listE_sh cs), SeqAt.eqv_refl _ (listE_sh cs).1]
theorem found_eq (cs : List (List Int)) : dEq (.list (cs.map encC ++ [.none])) (.list (cs.map encC ++ [.none])) = .ok (.bool true) := by
  have s : sh 2 (.list (cs.map encC ++ [.none])) := sh_list (n := 1) fun x hx => by
    rcases List.mem_append.mp hx with hx | hx
    · obtain ⟨c, _, rfl⟩ := List.mem_map.mp hx
      exact encC_sh c
    · rw [List.mem_singleton.mp hx]
      exact sh_none
  rw [dEq_sh s s, SeqAt.eqv_refl _ s.1]
theorem tail_ok (ns : List Int) {m : Nat} (hm : Many m) {cs : List (List Int)} (hc : CasesOk m cs) {ds : List Dn} (hd : ∀ x ∈ ds, DnOk m x) (hl : ds.length ≤ 3) (tu ba ke oft we du wh : PL.Slot pinB) :
    ∃ ρ, g_tail [.val (scriptD ns), .val (.int m), .val (.list (cs.map encC)), .val (.list (ds.map encX)), .val (.list ((openI ds cs).map encC)), .no, .own ((openI ds cs).map encC ++ [.none]), tu, ba, ke, oft, .own (cs.map encC), we, du, wh] = .ok (.rt (.bool true), ρ) := by
  have lo := open_le ds cs
  have l12 := hc.le
  have s1 := F_still_open_eq hm hc hd (by omega)
  have a1 : dAdd (.list ((openI ds cs).map encC)) (.list [.none]) = .ok (.list ((openI ds cs).map encC ++ [.none])) := dAdd_lists (by simp only [List.length_map, List.length_cons, List.length_nil]; omega)
  refine ⟨[.val (scriptD ns), .val (.int m), .val (.list (cs.map encC)), .val (.list (ds.map encX)), .val (.list ((openI ds cs).map encC)), .no, .val (.list ((openI ds cs).map encC ++ [.none])), tu, ba, ke, oft, .val (.list (cs.map encC)), we, du, wh], ?_⟩
  unfold g_tail
  simp only [dIx_t0, dIx_t1, dIx_l0, dIx_l1, toItems, itemsOf, runF, runL, startE, endF, endL, R.bind_ok, R.bind_exc, R.bind_stuck, gSeq, gIf, gSet, gOwn, gRet, gRetL, gRetO, gDrop, gTgt, gT, gsC, gsN, gN, gFor, gApp, gExt, gFrz, gNil, gExc, eVar, eC, e1, e2, eA, aNil, aCons, eTup, eLst, eCall, lCall, listR, eChain, tV, tAndD, tOrD, tNotD, eAnd, eOr, eNot, eIf, eL, lDisp, lList, lRep, oNone, oSome, eSl, iSeq, iRng1, iRng2, iZipD, iEnumD, iRevD, lListRange, lLc, eSorted, eSortSet, eLenSet, eBor, tBor, tYesD, noE, toB, dCmp, dSub, dNeg, dInt, dLen, dIs, dIsNot, List.map_cons, List.map_nil, List.length_cons, List.length_nil, Nat.reduceAdd, Nat.reduceSub, Nat.reduceLeDiff, List.replicate, List.cons_append, List.nil_append, List.append_nil, List.getElem?_cons_zero, List.getElem?_cons_succ, List.set_cons_zero, List.set_cons_succ, if_true, if_false, reduceIte, Bool.not_true, Bool.not_false, Bool.false_eq_true, reduceCtorEq, eVarP, listE_eq, dList, s1, a1, found_eq]
theorem bind_end {r : R (Fl × PL.Env pinB)} (h : ∃ ρ, r = .ok (.rt (.bool true), ρ)) : r.bind endF = .ok (.bool true) := by
  obtain ⟨ρ, e⟩ := h
  rw [e]
  rfl
theorem law_true (ns : List Int) : F_law [scriptD ns] = .ok (.bool true) := by
  obtain ⟨m, cs, p1, hm, _, hc⟩ := puzzle_ok ns 6 5 (by decide) (by decide)
  have hne : cs ≠ [] := fun z => by
    have := hc.pos
    rw [z] at this
    simp at this
  obtain ⟨ds, hd, hl, p2⟩ := F__law_done_eq hm hc.ok hne ns 1 (by decide)
  have p3 := F__law_open_eq hc.ok (by have := hc.le; omega) hd (by omega)
  obtain ⟨tu, ba, ke, oft, q1⟩ := mid_ok ns hm hc hd hl
  unfold held at q1
  have n1 := noLsts_found (openI ds cs)
  have n2 := noLsts_encs cs
  unfold F_law g_law
  simp only [dIx_t0, dIx_t1, dIx_l0, dIx_l1, toItems, itemsOf, runF, runL, startE, endF, endL, R.bind_ok, R.bind_exc, R.bind_stuck, gSeq, gIf, gSet, gOwn, gRet, gRetL, gRetO, gDrop, gTgt, gT, gsC, gsN, gN, gFor, gApp, gExt, gFrz, gNil, gExc, eVar, eC, e1, e2, eA, aNil, aCons, eTup, eLst, eCall, lCall, listR, eChain, tV, tAndD, tOrD, tNotD, eAnd, eOr, eNot, eIf, eL, lDisp, lList, lRep, oNone, oSome, eSl, iSeq, iRng1, iRng2, iZipD, iEnumD, iRevD, lListRange, lLc, eSorted, eSortSet, eLenSet, eBor, tBor, tYesD, noE, toB, dCmp, dSub, dNeg, dInt, dLen, dIs, dIsNot, List.map_cons, List.map_nil, List.length_cons, List.length_nil, Nat.reduceAdd, Nat.reduceSub, Nat.reduceLeDiff, List.replicate, List.cons_append, List.nil_append, List.append_nil, List.getElem?_cons_zero, List.getElem?_cons_succ, List.set_cons_zero, List.set_cons_succ, if_true, if_false, reduceIte, Bool.not_true, Bool.not_false, Bool.false_eq_true, reduceCtorEq, eVarP, p1, p2, p3, gPair, pinIn, pinS, q1, isPin, pinOut, poutS, n1, n2]
  exact bind_end (tail_ok ns hm hc hd hl _ _ _ _ _ _ _)
end W

set_option Elab.async false
set_option linter.all false
set_option maxRecDepth 100000
set_option maxHeartbeats 4000000
namespace W
open PySem PySem.Spec PyProof.Rows L2 PL
abbrev Rw : PySem.W.OpenRow := PySem.W.OpenLaw.row PySem.Challenge.rw_panplan_k03_still_open
abbrev hk : PySem.W.Hook := hookX 5 fa fn ex
def ob (s : PySem.W.SharedT) : He.AlD := obX 5 fa fn ex (HandSHeadRun.getT s)
theorem ob_eq (s : PySem.W.SharedT) : ob s = hk.obs s.abs := obX_eq (HandSHeadRun.getT_eq s)
def loose0 : List Str := ["PanError", "BadCount", "BadCases", "BadDone", "LEAST_THINGS", "MOST_THINGS", "MOST_CASES", "is_among", "need_many", "is_case", "need_cases", "is_pan", "is_weighing", "rising_tuples", "leading", "came", "MOST_DONE", "is_done", "need_done", "still_open", "OUTCOMES", "threes", "is_many", "Search", "told", "least", "_law_cell_at", "_law_mixed", "_law_whole", "_law_came"]
def loose1 : List Str := ["_law_pans", "_law_pool", "_law_puzzle", "_law_done", "_law_open", "_law_class", "_law_wrong_done", "_law_refused", "_law_tuples"]
def loose : List Str := loose0 ++ loose1
set_option maxHeartbeats 0 in
theorem run (w : World) : HandSHeadRun.RunEq Rw (PySem.W.view Rw.prog [46]) hk ob 3000 loose w := by
  intro os
  kernel_rfl
end W
open PySem PySem.W PySem.Calls PyProof.Rows
set_option maxHeartbeats 0 in
theorem PySem.Challenge.cw_panplan_k03_still_open_holds : PySem.Challenge.rw_panplan_k03_still_open.Holds := by
  w_on; o_law
  refine HandSHeadRun.head_any (r := W.Rw) (q := view W.Rw.prog [46]) (H := W.hk) (ob := W.ob) (M := 3000) (loose := W.loose) (d := HandSHeadRun.topDef W.Rw.prog 46) (kwd := []) W.ob_eq
    (by kernel_rfl) (fun s => by kernel_rfl) W.run (by kernel_rfl) (by kernel_rfl) (by kernel_rfl) (by rfl)
    (by first | assumption | decide +kernel) (by decide +kernel) ⟨rfl, rfl, rfl, rfl, rfl, by decide +kernel⟩ ?hw ?hc
  case hw => w_witness2
  case hc =>
    refine PL.walk_ofG (B := PL.pinB) (l := PySem.Challenge.rw_panplan_k03_still_open) (k := 8) (x := "_law_script") rfl (by kernel_rfl) ⟨rfl, by decide, by decide⟩ (by kernel_rfl) ?F
    intro w mg f h Yv Gv hm0
    obtain ⟨K, kx, c, hex⟩ := Yv
    have T : W.TF K mg := ⟨⟨c, h, kx, Gv⟩, hex⟩
    have hm : mg ("law" : PySem.Str) = some (.ref f) := by
      have e : (HandSHeadRun.topDef W.Rw.prog 46).name = ("law" : PySem.Str) := by kernel_rfl
      rw [← e]
      exact hm0
    have e := hm.symm.trans (T.glo 40)
    cases e
    obtain ⟨fd, FD⟩ := c.def_ 25 (d := W.dF "law" 46) rfl
    have b := L2.FunD.bindsA (ps := ["_law_script"]) FD fun _ _ _ _ _ _ us hl => match us, hl with | [_], _ => rfl
    exact ⟨K, fd, W.cA K, _, _, _, _, _, _, _, W.g_law, kx, FD, W.sc_law, fun s v => b s [v] rfl, W.law_true, fun base _ _ cdv s H E so G => W.body_law T so G⟩

