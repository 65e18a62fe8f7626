import PyProof.Rows.All
import Wide.All
import OpenK.AllK
import Wide.FinOn
import HandS.ForMost
import HandS.ForExc
import HandS.ExcCtx
import HandS.Deep
import HandS.TupAny
import HandS.TupMul
import HandS.Zip
import HandS.IsInst
import HandS.Defaults
import HandS.Style
import KE.GoesEnum
import KE.GoesMore
import HandS.HeadHook2
import KE.SortData
import HandS.Strs
import HandS.SetFor
import HandS.Conv
import HandS.Dict
import HandS.ExcIs
import HandS.HotCalls
import PyProof.StrBlock2
import HandS.HeadEnd
import HandS.Head0
import HandS.Head1
import HandS.Head2
import PyProof.ReprRoads
import PyProof.ReprBulk
import PyProof.Rows.SetFrom
import HandS.HeadHook1
import PySem.Challenge.RW_panplan_k04_plans_looked_at
set_option Elab.async false
set_option linter.all false
set_option maxRecDepth 100000
set_option maxHeartbeats 4000000
/-! The pure layer: what a def computes over plain data, on top of HandS. -/
namespace PL
open PySem PySem.Spec PyProof.Rows L2

/-! ### results -/
inductive R (α : Type) where
  | ok (a : α)
  | exc (n : Nat)
  | stuck
def R.bind {α β : Type} (r : R α) (k : α → R β) : R β := match r with
  | .ok a => k a
  | .exc n => .exc n
  | .stuck => .stuck
theorem R.bind_ok {α β : Type} (a : α) (k : α → R β) : (R.ok a).bind k = k a := rfl
theorem R.bind_exc {α β : Type} (n : Nat) (k : α → R β) : (R.exc n : R α).bind k = .exc n := rfl
theorem R.bind_stuck {α β : Type} (k : α → R β) : (R.stuck : R α).bind k = .stuck := rfl

abbrev D := PyData

/-! ### what stands for what -/
mutual
inductive Rep (K : PySem.W.Frag) (M : Hp) : V → D → Prop
  | non : Rep K M .non .none
  | bl (b : Bool) : Rep K M (.bl b) (.bool b)
  | int (i : Int) : Rep K M (.int i) (.int i)
  | str (x : Str) : Rep K M (.str x) (.str x)
  | lst {a : Addr} {xs : List V} {ds : List D} : M a = some (.lst xs) → Reps K M xs ds → Rep K M (.ref a) (.list ds)
  /-- the script: read alone -/
  | scr {a : Addr} {xs : List V} {ds : List D} : SqL K M a xs → Reps K M xs ds → Rep K M (.ref a) (.dict [(.none, .list ds)])
  | tup {a : Addr} {xs : List V} {ds : List D} : SqT K M a xs → Reps K M xs ds → Rep K M (.ref a) (.tuple ds)
  | dic {a : Addr} : M a = some (.dK []) → Rep K M (.ref a) (.dict [])
inductive Reps (K : PySem.W.Frag) (M : Hp) : List V → List D → Prop
  | nil : Reps K M [] []
  | cons {v : V} {vs : List V} {d : D} {ds : List D} : Rep K M v d → Reps K M vs ds → Reps K M (v :: vs) (d :: ds)
end
section
variable {K : PySem.W.Frag} {M M' : Hp}
theorem sqT_same (s : Same M M') {a : Addr} {xs : List V} (h : SqT K M a xs) : SqT K M' a xs := by
  rcases h with (h | ⟨o, h⟩) | h
  · exact .inl (.inl (s _ _ h))
  · exact .inl (.inr ⟨o, s _ _ h⟩)
  · exact .inr h
mutual
theorem Rep.same (s : Same M M') : ∀ {v : V} {d : D}, Rep K M v d → Rep K M' v d
  | _, _, .non => .non
  | _, _, .bl b => .bl b
  | _, _, .int i => .int i
  | _, _, .str x => .str x
  | _, _, .lst h r => .lst (s _ _ h) (Reps.same s r)
  | _, _, .scr h r => .scr (s.seq h) (Reps.same s r)
  | _, _, .tup h r => .tup (sqT_same s h) (Reps.same s r)
  | _, _, .dic h => .dic (s _ _ h)
theorem Reps.same (s : Same M M') : ∀ {vs : List V} {ds : List D}, Reps K M vs ds → Reps K M' vs ds
  | _, _, .nil => .nil
  | _, _, .cons h t => .cons (Rep.same s h) (Reps.same s t)
end
theorem Reps.length : ∀ {vs : List V} {ds : List D}, Reps K M vs ds → vs.length = ds.length
  | _, _, .nil => rfl
  | _, _, .cons _ t => congrArg Nat.succ (Reps.length t)
theorem Reps.get : ∀ {vs : List V} {ds : List D} {i : Nat} {d : D}, Reps K M vs ds → ds[i]? = some d → ∃ v, vs[i]? = some v ∧ Rep K M v d
  | _, _, _, _, .nil, e => by simp at e
  | _, _, 0, _, .cons h _, e => by simp at e; subst e; exact ⟨_, rfl, h⟩
  | _, _, i + 1, d, .cons _ t, e => by
    obtain ⟨v, h1, h2⟩ := Reps.get (i := i) (d := d) t (by simpa using e)
    exact ⟨v, by simpa using h1, h2⟩
theorem Reps.append : ∀ {vs ws : List V} {ds es : List D}, Reps K M vs ds → Reps K M ws es → Reps K M (vs ++ ws) (ds ++ es)
  | _, _, _, _, .nil, h => h
  | _, _, _, _, .cons h t, h' => .cons h (Reps.append t h')
theorem Reps.take : ∀ {vs : List V} {ds : List D} (n : Nat), Reps K M vs ds → Reps K M (vs.take n) (ds.take n)
  | _, _, 0, _ => by simp; exact .nil
  | _, _, _ + 1, .nil => by simp; exact .nil
  | _, _, n + 1, .cons h t => .cons h (Reps.take n t)
theorem Reps.drop : ∀ {vs : List V} {ds : List D} (n : Nat), Reps K M vs ds → Reps K M (vs.drop n) (ds.drop n)
  | _, _, 0, h => by simpa using h
  | _, _, _ + 1, .nil => by simp; exact .nil
  | _, _, n + 1, .cons h t => by simpa using Reps.drop n t
theorem Reps.reverse : ∀ {vs : List V} {ds : List D}, Reps K M vs ds → Reps K M vs.reverse ds.reverse
  | _, _, .nil => .nil
  | _, _, .cons h t => by rw [List.reverse_cons, List.reverse_cons]; exact (Reps.reverse t).append (.cons h .nil)
theorem Reps.set {v : V} {d : D} (h : Rep K M v d) : ∀ {vs : List V} {ds : List D} (n : Nat), Reps K M vs ds → Reps K M (vs.set n v) (ds.set n d)
  | _, _, _, .nil => .nil
  | _, _, 0, .cons _ t => .cons h t
  | _, _, n + 1, .cons q t => .cons q (Reps.set h n t)
theorem Reps.erase : ∀ {vs : List V} {ds : List D} (n : Nat), Reps K M vs ds → Reps K M (vs.eraseIdx n) (ds.eraseIdx n)
  | _, _, _, .nil => .nil
  | _, _, 0, .cons _ t => t
  | _, _, n + 1, .cons q t => .cons q (Reps.erase n t)
theorem Reps.ints : ∀ {vs : List V} {ns : List Int}, Reps K M vs (ns.map PyData.int) → vs = ns.map V.int
  | _, [], .nil => rfl
  | _, n :: ns, .cons h t => by
    cases h
    rw [List.map_cons, Reps.ints t]
theorem Reps.of_ints : ∀ (ns : List Int), Reps K M (ns.map V.int) (ns.map PyData.int)
  | [] => .nil
  | n :: ns => .cons (.int n) (Reps.of_ints ns)
theorem Reps.bools : ∀ {vs : List V} {ns : List Bool}, Reps K M vs (ns.map PyData.bool) → vs = ns.map V.bl
  | _, [], .nil => rfl
  | _, n :: ns, .cons h t => by
    cases h
    rw [List.map_cons, Reps.bools t]
mutual
/-- no dict within -/
def noDic : D → Bool
  | .dict _ => false
  | .list xs => noDics xs
  | .tuple xs => noDics xs
  | _ => true
def noDics : List D → Bool
  | [] => true
  | x :: xs => noDic x && noDics xs
end
mutual
theorem Rep.dp : ∀ {v : V} {d : D}, d.canLay0 = true → Rep K M v d → Dp K M v d
  | _, _, _, .non => .non
  | _, _, _, .bl b => .bl b
  | _, _, _, .int i => .int i
  | _, _, _, .str x => .str x
  | _, _, e, .lst h r => .lst (SqL.of h) (Reps.dp (by simpa [PyData.canLay0] using e) r)
  | _, _, e, .scr h r => by simp [PyData.canLay0] at e
  | _, _, e, .tup h r => .tup h (Reps.dp (by simpa [PyData.canLay0] using e) r)
  | _, _, e, .dic h => by simp [PyData.canLay0] at e
theorem Reps.dp : ∀ {vs : List V} {ds : List D}, PyData.canLayAll0 ds = true → Reps K M vs ds → DpAll K M vs ds
  | _, _, _, .nil => .nil
  | v :: vs, d :: ds, e, .cons h t => by
    have e' : PyData.canLay0 d = true ∧ PyData.canLayAll0 ds = true := by simpa [PyData.canLayAll0] using e
    exact .cons (Rep.dp e'.1 h) (Reps.dp e'.2 t)
end
theorem sqL_up {H : Hp} (s : Same M H) {a : Addr} {xs : List V} (h : SqL K M a xs) : SqL K H a xs := s.seq h
mutual
theorem Dp.up {H : Hp} (s : Same M H) : ∀ {v : V} {d : D}, Dp K M v d → Dp K H v d
  | _, _, .non => .non
  | _, _, .bl b => .bl b
  | _, _, .int i => .int i
  | _, _, .str x => .str x
  | _, _, .lst h r => .lst (s.seq h) (DpAll.up s r)
  | _, _, .tup h r => .tup (sqT_same s h) (DpAll.up s r)
theorem DpAll.up {H : Hp} (s : Same M H) : ∀ {vs : List V} {ds : List D}, DpAll K M vs ds → DpAll K H vs ds
  | _, _, .nil => .nil
  | _, _, .cons h t => .cons (Dp.up s h) (DpAll.up s t)
end
end

/-! ### heaps: what may not change, how they grow -/
def imm : HO → Bool
  | .lst _ => true
  | .tup _ => true
  | .frz _ _ => true
  | .dK _ => true
  | _ => false
def isExt : HO → Bool
  | .ext _ => true
  | _ => false
def Keep (b : Bool) (H H' : Hp) : Prop := ∀ a o, H a = some o → H' a = some o ∨ (b = true ∧ isExt o = true ∧ ∃ o', H' a = some o' ∧ isExt o' = true)
theorem Keep.refl {b : Bool} {H : Hp} : Keep b H H := fun _ _ h => .inl h
theorem Keep.of {b : Bool} {H H' : Hp} (s : Same H H') : Keep b H H' := fun a o h => .inl (s a o h)
theorem Keep.trans {b : Bool} {H H1 H2 : Hp} (x : Keep b H H1) (y : Keep b H1 H2) : Keep b H H2 := fun a o h => by
  rcases x a o h with h1 | ⟨hb, he, o', h1, he'⟩
  · exact y a o h1
  · rcases y a o' h1 with h2 | ⟨_, _, o2, h2, he2⟩
    · exact .inr ⟨hb, he, o', h2, he'⟩
    · exact .inr ⟨hb, he, o2, h2, he2⟩
theorem Keep.free {b : Bool} {H H' : Hp} (x : Keep b H H') {a : Addr} (h : H' a = none) : H a = none := by
  cases e : H a with
  | none => rfl
  | some o =>
    rcases x a o e with h1 | ⟨_, _, o', h1, _⟩
    · rw [h] at h1; cases h1
    · rw [h] at h1; cases h1
theorem Keep.same {H H' : Hp} (x : Keep false H H') : Same H H' := fun a o h => by
  rcases x a o h with h1 | ⟨hb, _⟩
  · exact h1
  · cases hb
theorem Keep.at {b : Bool} {H H' : Hp} (x : Keep b H H') {a : Addr} {o : HO} (h : H a = some o) (n : isExt o = false) : H' a = some o := by
  rcases x a o h with h1 | ⟨_, he, _⟩
  · exact h1
  · rw [n] at he; cases he
/-- M is a part of H that stays -/
def MOk (M H : Hp) : Prop := ∀ a o, M a = some o → H a = some o ∧ imm o = true
structure Grow (M H M' H' : Hp) : Prop where
  h : Same H H'
  m : Same M M'
  ok : MOk M' H'
  new : ∀ a o, M' a = some o → M a = none → H a = none
theorem Grow.refl {M H : Hp} (k : MOk M H) : Grow M H M H := ⟨Same.refl _, Same.refl _, k, fun a o h n => by rw [h] at n; cases n⟩
theorem Grow.trans {M H M1 H1 M2 H2 : Hp} (x : Grow M H M1 H1) (y : Grow M1 H1 M2 H2) : Grow M H M2 H2 where
  h := x.h.trans y.h
  m := x.m.trans y.m
  ok := y.ok
  new := fun a o h n => by
    cases e : M1 a with
    | none => exact x.h.free (y.new a o h e)
    | some o1 => exact x.new a o1 e n
/-- what an evaluation may do -/
structure Step (b : Bool) (M H M' H' : Hp) : Prop where
  k : Keep b H H'
  m : Same M M'
  new : ∀ a o, M' a = some o → M a = none → H a = none
theorem Step.refl {b : Bool} {M H : Hp} : Step b M H M H := ⟨.refl, Same.refl _, fun a o h n => by rw [h] at n; cases n⟩
theorem Step.of {b : Bool} {M H M' H' : Hp} (g : Grow M H M' H') : Step b M H M' H' := ⟨.of g.h, g.m, g.new⟩
theorem Step.trans {b : Bool} {M H M1 H1 M2 H2 : Hp} (x : Step b M H M1 H1) (y : Step b M1 H1 M2 H2) : Step b M H M2 H2 where
  k := x.k.trans y.k
  m := x.m.trans y.m
  new := fun a o h n => by
    cases e : M1 a with
    | none => exact x.k.free (y.new a o h e)
    | some o1 => exact x.new a o1 e n
theorem upd_same_of {M : Hp} {p : Addr} {o : HO} (h : M p = none) : Same M (upd M p o) := fun a u e => by
  rw [upd_ne (fun z => by subst z; rw [h] at e; cases e)]; exact e
theorem MOk.free {M H : Hp} (k : MOk M H) {p : Addr} (h : H p = none) : M p = none := by
  cases e : M p with
  | none => rfl
  | some o => rw [(k p o e).1] at h; cases h
theorem MOk.upd {M H : Hp} (k : MOk M H) {p : Addr} {o : HO} (h : H p = none) (i : imm o = true) : MOk (upd M p o) (upd H p o) := fun a u e => by
  by_cases z : a = p
  · subst z; rw [upd_same] at e ⊢; cases e; exact ⟨rfl, i⟩
  · rw [upd_ne z] at e ⊢; exact k a u e
/-- a new object that stays -/
theorem Grow.alloc {M H : Hp} (k : MOk M H) {p : Addr} {o : HO} (h : H p = none) (i : imm o = true) : Grow M H (upd M p o) (upd H p o) where
  h := upd_same_of h
  m := upd_same_of (k.free h)
  ok := k.upd h i
  new := fun a u e n => by
    by_cases z : a = p
    · subst z; exact h
    · rw [upd_ne z] at e; rw [e] at n; cases n
theorem MOk.same {M H : Hp} (k : MOk M H) : Same M H := fun a o h => (k a o h).1

/-! ### objects (the class Search), by what is said of them -/
structure ObjB where
  Dat : Type
  rep : PySem.W.Frag → Hp → Hp → V → Dat → Prop
  mono : ∀ K M H M' H' v z, rep K M H v z → Same M M' → (∀ a o, H a = some o → imm o = false → H' a = some o) → rep K M' H' v z
abbrev noObj : ObjB := ⟨Empty, fun _ _ _ _ _ => False, fun _ _ _ _ _ _ _ h _ _ => h⟩

/-! ### environments -/
inductive Slot (B : ObjB) where
  | no
  | val (d : D)
  | own (ds : List D)
  | obj (z : B.Dat)
abbrev Env (B : ObjB) := List (Slot B)
/-- what is fixed through a derivation -/
structure Ctx (B : ObjB) where
  K : PySem.W.Frag
  cA : Nat → Addr
  E : XK
/-- the entry -/
structure Ent where
  M : Hp
  H : Hp
  b : Bool
section
variable {B : ObjB}
def SlotR (K : PySem.W.Frag) (I : Ent) (M H : Hp) (w : Option (Option V)) : Slot B → Prop
  | .no => True
  | .val d => ∃ v, w = some (some v) ∧ Rep K M v d
  | .own ds => ∃ l vs, w = some (some (.ref l)) ∧ H l = some (.lst vs) ∧ M l = none ∧ I.H l = none ∧ Reps K M vs ds
  | .obj z => ∃ v, w = some (some v) ∧ B.rep K M H v z
structure EnvR (K : PySem.W.Frag) (I : Ent) (M H : Hp) (σ : L2.St) (ρ : Env B) : Prop where
  len : σ.length = ρ.length
  ent : Keep I.b I.H H
  msub : Same I.M M
  mok : MOk M H
  mnew : ∀ a o, M a = some o → I.M a = none → I.H a = none
  slots : ∀ (i : Nat) (s : Slot B), ρ[i]? = some s → SlotR K I M H σ[i]? s
  apart : ∀ (i j : Nat) (ds es : List D), i ≠ j → ρ[i]? = some (.own ds) → ρ[j]? = some (.own es) → σ[i]? ≠ σ[j]?
variable {c : Ctx B} {I : Ent} {M H M' H' : Hp} {σ : L2.St} {ρ : Env B}
theorem SlotR.grow {K : PySem.W.Frag} {w : Option (Option V)} {s : Slot B} (g : Grow M H M' H') (h : SlotR K I M H w s) : SlotR K I M' H' w s := by
  cases s with
  | no => trivial
  | val d => obtain ⟨v, e, r⟩ := h; exact ⟨v, e, r.same g.m⟩
  | own ds =>
    obtain ⟨l, vs, e, hl, ml, il, r⟩ := h
    refine ⟨l, vs, e, g.h _ _ hl, ?_, il, r.same g.m⟩
    cases q : M' l with
    | none => rfl
    | some o => rw [g.new l o q ml] at hl; cases hl
  | obj z => obtain ⟨v, e, r⟩ := h; exact ⟨v, e, B.mono _ _ _ _ _ _ _ r g.m fun a o q _ => g.h a o q⟩
theorem EnvR.grow {K : PySem.W.Frag} (e : EnvR K I M H σ ρ) (g : Grow M H M' H') : EnvR K I M' H' σ ρ where
  len := e.len
  ent := e.ent.trans (.of g.h)
  msub := e.msub.trans g.m
  mok := g.ok
  mnew := fun a o h n => by
    cases q : M a with
    | none => exact e.ent.free (g.new a o h q)
    | some o' => exact e.mnew a o' q n
  slots := fun i s h => (e.slots i s h).grow g
  apart := e.apart

/-! ### readings over data -/
def RD (c : Ctx B) (I : Ent) {α : Type} (r : R α) (P : α → Prop) : Prop := match r with
  | .ok a => P a
  | .exc n => ∀ H', Keep I.b I.H H' → c.E (.ref (c.cA n)) none H'
  | .stuck => False
theorem RD.bind {α β : Type} {r : R α} {k : α → R β} {P : β → Prop} (h : RD c I (r.bind k) P) : RD c I r (fun a => RD c I (k a) P) := by
  cases r with
  | ok a => exact h
  | exc n => exact h
  | stuck => exact h
theorem RD.mono {α : Type} {r : R α} {P Q : α → Prop} (h : RD c I r P) (k : ∀ a, P a → Q a) : RD c I r Q := by
  cases r with
  | ok a => exact k a h
  | exc n => exact h
  | stuck => exact h
theorem RD.case {α : Type} {r : R α} {P Q : α → Prop} (h : RD c I r P) (k : ∀ a, r = .ok a → P a → Q a) : RD c I r Q := by
  cases r with
  | ok a => exact k a rfl h
  | exc n => exact h
  | stuck => exact h
/-- what is wanted of a value, of several, of a truth value, of nothing -/
def Post (c : Ctx B) (I : Ent) (M H : Hp) (σ : L2.St) (ρ : Env B) (Q : VK) (d : D) : Prop := ∀ v H' M', Step I.b M H M' H' → EnvR c.K I M' H' σ ρ → Rep c.K M' v d → Q v H'
def PostA (c : Ctx B) (I : Ent) (M H : Hp) (σ : L2.St) (ρ : Env B) (Q : List V → Hp → Prop) (ds : List D) : Prop := ∀ vs H' M', Step I.b M H M' H' → EnvR c.K I M' H' σ ρ → Reps c.K M' vs ds → Q vs H'
def PostT (c : Ctx B) (I : Ent) (M H : Hp) (σ : L2.St) (ρ : Env B) (Q : Bool → Hp → Prop) (d : Bool) : Prop := ∀ H' M', Step I.b M H M' H' → EnvR c.K I M' H' σ ρ → Q d H'
def tD (c : Ctx B) (f : Env B → R D) : TE := fun σ H Q => ∃ I M ρ, EnvR c.K I M H σ ρ ∧ RD c I (f ρ) (Post c I M H σ ρ Q)
def tDA (c : Ctx B) (f : Env B → R (List D)) : TA := fun σ H Q => ∃ I M ρ, EnvR c.K I M H σ ρ ∧ RD c I (f ρ) (PostA c I M H σ ρ Q)
def tDT (c : Ctx B) (f : Env B → R Bool) : TT := fun σ H Q => ∃ I M ρ, EnvR c.K I M H σ ρ ∧ RD c I (f ρ) (PostT c I M H σ ρ Q)
end

theorem passN {X : Cx} : Passes (L2N.CX X.prog X.w) X E0 := fun _ _ _ _ _ _ _ ⟨_, _, _, _, _, _, _, _, _, _, _, _, z⟩ => z.elim
/-- what a body's context gives -/
structure Good {B : ObjB} (X : Cx) (c : Ctx B) (k : Nat) : Prop where
  K : c.K = X.K
  nd : X.N.Nodup
  calm : X.calm = true
  room : Room k X.A
  pass : Passes (L2N.CX X.prog X.w) X c.E
/-- .. and a statement's -/
structure GoodS {B : ObjB} (X : Cx) (c : Ctx B) (k : Nat) : Prop extends Good X c k where
  own : PassesOwn (model X.prog X.w) X.A X.env X.xe
  takes : L2N.Takes X (fun cls d _ H => c.E cls d H)

section
variable {B : ObjB}
structure DE (X : Cx) (c : Ctx B) (e : Expr) (f : Env B → R D) : Prop where
  pe : PE X e (tD c f)
structure DA (X : Cx) (c : Ctx B) (es : List Expr) (f : Env B → R (List D)) : Prop where
  pa : PA X es (tDA c f)
structure DT (X : Cx) (c : Ctx B) (e : Expr) (f : Env B → R Bool) : Prop where
  pt : PT X e (tDT c f)
structure DW (X : Cx) (c : Ctx B) (e : Expr) (f : Env B → R Bool) : Prop where
  pw : PW X e (tDT c f)

/-! ### monotone readings -/
theorem PE.imp {X : Cx} {e : Expr} {t u : TE} (h : PE X e t) (k : ∀ σ H Q, u σ H Q → t σ H Q) : PE X e u := ⟨fun pins s σ H Q I q => h.run pins s σ H Q I (k σ H Q q)⟩
theorem PT.imp {X : Cx} {e : Expr} {t u : TT} (h : PT X e t) (k : ∀ σ H Q, u σ H Q → t σ H Q) : PT X e u := ⟨fun pins s σ H Q I q => h.run pins s σ H Q I (k σ H Q q)⟩
theorem PW.imp {X : Cx} {e : Expr} {t u : TT} (h : PW X e t) (k : ∀ σ H Q, u σ H Q → t σ H Q) : PW X e u := ⟨fun wh pins s σ H Q I q => h.run wh pins s σ H Q I (k σ H Q q)⟩
theorem PA.imp {X : Cx} {e : List Expr} {t u : TA} (h : PA X e t) (k : ∀ σ H Q, u σ H Q → t σ H Q) : PA X e u := ⟨fun pos pins s σ H Q I q => h.run pos pins s σ H Q I (k σ H Q q)⟩
theorem PS.imp {X : Cx} {e : Stmt} {t u : TS} (h : PS X e t) (k : ∀ D σ H, u D σ H → t D σ H) : PS X e u := ⟨fun pins s σ H D I q => h.run pins s σ H D I (k D σ H q)⟩
theorem PSs.imp {X : Cx} {e : List Stmt} {t u : TS} (h : PSs X e t) (k : ∀ D σ H, u D σ H → t D σ H) : PSs X e u := ⟨fun pins s σ H D I q => h.run pins s σ H D I (k D σ H q)⟩

/-! ### names, constants -/
def eVar (i : Nat) : Env B → R D := fun ρ => match ρ[i]? with
  | some (.val d) => .ok d
  | _ => .stuck
def eC (d : D) : Env B → R D := fun _ => .ok d
variable {X : Cx} {c : Ctx B} {k : Nat} {pos : Pos}
theorem de_var {i : Nat} {x : Str} (hN : X.N[i]? = some x) (hv : Vis X.env.scope x) (hd : (x == ("__debug__" : Str)) = false := by decide) (hcd : (x == ("__classdict__" : Str)) = false := by decide) : DE X c (.Name x pos) (eVar i) := by
  refine ⟨PE.imp (pe_var hN hv hd hcd) fun σ H Q ⟨I, M, ρ, e, h⟩ => ?_⟩
  unfold eVar at h
  split at h
  · rename_i d q
    obtain ⟨v, e1, r⟩ := e.slots i _ q
    exact ⟨v, e1, h v H M .refl e r⟩
  · exact h.elim
theorem de_const {e : Expr} {v : V} {d : D} (h : PE X e (tC v)) (r : ∀ M, Rep c.K M v d) : DE X c e (eC d) :=
  ⟨PE.imp h fun σ H Q ⟨I, M, ρ, e, q⟩ => q v H M .refl e (r M)⟩
theorem de_int {i j} : DE X c (.Constant (.int i) j pos) (eC (.int i)) := de_const pe_int fun _ => .int i
theorem de_bl {b j} : DE X c (.Constant (.bool b) j pos) (eC (.bool b)) := de_const pe_bl fun _ => .bl b
theorem de_non {j} : DE X c (.Constant .none j pos) (eC .none) := de_const pe_non fun _ => .non
theorem de_str {x j} : DE X c (.Constant (.str x) j pos) (eC (.str x)) := de_const pe_str fun _ => .str x
theorem de_glob {x : Str} {v : V} {u : Value} {d : D} (hg : Gl X x) (hm : X.mg x = some u) (r : RelV v u) (rd : ∀ M, Rep c.K M v d) (hd : (x == ("__debug__" : Str)) = false := by decide) : DE X c (.Name x pos) (eC d) :=
  de_const (pe_glob hg hm r hd) rd

/-! ### operations by their values -/
def Ok1 (K : PySem.W.Frag) (r : V → Hp → VK → Prop) (F : D → R D) : Prop := ∀ M H v dv d (Q : VK), MOk M H → Rep K M v dv → F dv = .ok d → (∀ v' H' M', Grow M H M' H' → Rep K M' v' d → Q v' H') → r v H Q
def Ok2 (K : PySem.W.Frag) (r : R2) (F : D → D → R D) : Prop := ∀ M H v w dv dw d (Q : VK), MOk M H → Rep K M v dv → Rep K M w dw → F dv dw = .ok d → (∀ v' H' M', Grow M H M' H' → Rep K M' v' d → Q v' H') → r v w H Q
def OkA (K : PySem.W.Frag) (r : List V → Hp → VK → Prop) (F : List D → R D) : Prop := ∀ M H vs ds d (Q : VK), MOk M H → Reps K M vs ds → F ds = .ok d → (∀ v' H' M', Grow M H M' H' → Rep K M' v' d → Q v' H') → r vs H Q
/-- F gives no error of its own -/
def noE {α : Type} (r : R α) : R α := match r with
  | .exc _ => .stuck
  | r => r
theorem noE_ok {α : Type} {r : R α} {a : α} (h : noE r = .ok a) : r = .ok a := by
  cases r with
  | ok b => exact h
  | exc n => cases h
  | stuck => cases h
theorem RD.noE {α : Type} {I : Ent} {r : R α} {P : α → Prop} (h : RD c I (PL.noE r) P) : ∃ a, r = .ok a ∧ P a := by
  cases r with
  | ok a => exact ⟨a, rfl, h⟩
  | exc n => exact h.elim
  | stuck => exact h.elim
def e1 (F : D → R D) (f : Env B → R D) : Env B → R D := fun ρ => (f ρ).bind fun x => noE (F x)
def e2 (F : D → D → R D) (f g : Env B → R D) : Env B → R D := fun ρ => (f ρ).bind fun x => (g ρ).bind fun y => noE (F x y)
def eA (F : List D → R D) (f : Env B → R (List D)) : Env B → R D := fun ρ => (f ρ).bind fun x => noE (F x)
/-- the end of an operation -/
theorem post_grow {I : Ent} {M0 H0 M H : Hp} {σ : L2.St} {ρ : Env B} {Q : VK} {d : D} (h : Post c I M0 H0 σ ρ Q d) (k : Step I.b M0 H0 M H) (e : EnvR c.K I M H σ ρ) :
    ∀ v' H' M', Grow M H M' H' → Rep c.K M' v' d → Q v' H' := fun v' H' M' g r => h v' H' M' (k.trans (.of g)) (e.grow g) r
theorem de_1 {e a : Expr} {ta : TE} {r : V → Hp → VK → Prop} {F : D → R D} {f : Env B → R D} (h : ∀ {t : TE}, PE X a t → PE X e (tUn r t)) (hF : Ok1 c.K r F) (ha : DE X c a f) : DE X c e (e1 F f) := by
  refine ⟨PE.imp (h ha.pe) fun σ H Q ⟨I, M, ρ, e, q⟩ => ?_⟩
  refine ⟨I, M, ρ, e, q.bind.mono fun x hx v H1 M1 k1 e1 r1 => ?_⟩
  obtain ⟨d, hd, hp⟩ := hx.noE
  exact hF M1 H1 v x d Q e1.mok r1 hd (post_grow hp k1 e1)
theorem de_2 {e a b : Expr} {r : R2} {F : D → D → R D} {f g : Env B → R D} (h : ∀ {t u : TE}, PE X a t → PE X b u → PE X e (tOp r t u)) (hF : Ok2 c.K r F) (ha : DE X c a f) (hb : DE X c b g) : DE X c e (e2 F f g) := by
  refine ⟨PE.imp (h ha.pe hb.pe) fun σ H Q ⟨I, M, ρ, e, q⟩ => ?_⟩
  refine ⟨I, M, ρ, e, q.bind.mono fun x hx v H1 M1 k1 e1 r1 => ?_⟩
  refine ⟨I, M1, ρ, e1, hx.bind.mono fun y hy u H2 M2 k2 e2 r2 => ?_⟩
  obtain ⟨d, hd, hp⟩ := hy.noE
  exact hF M2 H2 v u x y d Q e2.mok (r1.same k2.m) r2 hd (post_grow hp (k1.trans k2) e2)
theorem de_A {e : Expr} {es : List Expr} {r : List V → Hp → VK → Prop} {F : List D → R D} {f : Env B → R (List D)} (h : ∀ {t : TA}, PA X es t → PE X e (tCB r t)) (hF : OkA c.K r F) (ha : DA X c es f) : DE X c e (eA F f) := by
  refine ⟨PE.imp (h ha.pa) fun σ H Q ⟨I, M, ρ, e, q⟩ => ?_⟩
  refine ⟨I, M, ρ, e, q.bind.mono fun x hx v H1 M1 k1 e1 r1 => ?_⟩
  obtain ⟨d, hd, hp⟩ := hx.noE
  exact hF M1 H1 v x d Q e1.mok r1 hd (post_grow hp k1 e1)

/-! ### argument lists -/
def aNil : Env B → R (List D) := fun _ => .ok []
def aCons (f : Env B → R D) (g : Env B → R (List D)) : Env B → R (List D) := fun ρ => (f ρ).bind fun x => (g ρ).bind fun xs => .ok (x :: xs)
theorem da_nil : DA X c [] (aNil : Env B → R (List D)) := ⟨PA.imp pa_nil fun σ H Q ⟨I, M, ρ, e, q⟩ => q [] H M .refl e .nil⟩
theorem da_cons {e : Expr} {es : List Expr} {f : Env B → R D} {g : Env B → R (List D)} (h : DE X c e f) (h' : DA X c es g) (hs : starEach (e :: es) X.env = (false, eval e X.env) :: starEach es X.env := by rfl) : DA X c (e :: es) (aCons f g) := by
  refine ⟨PA.imp (pa_cons h.pe h'.pa hs) fun σ H Q ⟨I, M, ρ, e, q⟩ => ?_⟩
  refine ⟨I, M, ρ, e, q.bind.mono fun x hx v H1 M1 k1 e1 r1 => ?_⟩
  refine ⟨I, M1, ρ, e1, hx.bind.mono fun xs hxs vs H2 M2 k2 e2 r2 => ?_⟩
  exact hxs (v :: vs) H2 M2 (k1.trans k2) e2 (.cons (r1.same k2.m) r2)

/-! ### displays -/
def eTup (f : Env B → R (List D)) : Env B → R D := fun ρ => (f ρ).bind fun xs => if xs.length ≤ 1000 then .ok (.tuple xs) else .stuck
def eLst (f : Env B → R (List D)) : Env B → R D := fun ρ => (f ρ).bind fun xs => if xs.length ≤ 1000 then .ok (.list xs) else .stuck
theorem le_line {n : Nat} (h : n ≤ 1000) : n ≤ sizeLine := Nat.le_trans h (by decide)
theorem Rep.newT {K : PySem.W.Frag} {M : Hp} {p : Addr} {vs : List V} {ds : List D} (h : M p = none) (r : Reps K M vs ds) : Rep K (upd M p (.tup vs)) (.ref p) (.tuple ds) :=
  .tup (SqT.of upd_same) (r.same (upd_same_of h))
theorem Rep.newL {K : PySem.W.Frag} {M : Hp} {p : Addr} {vs : List V} {ds : List D} (h : M p = none) (r : Reps K M vs ds) : Rep K (upd M p (.lst vs)) (.ref p) (.list ds) :=
  .lst upd_same (r.same (upd_same_of h))
theorem de_tup {es : List Expr} {x1} {f : Env B → R (List D)} (h : DA X c es f) : DE X c (.Tuple es x1 pos) (eTup f) := by
  refine ⟨PE.imp (pe_tup h.pa) fun σ H Q ⟨I, M, ρ, e, q⟩ => ?_⟩
  refine ⟨I, M, ρ, e, q.bind.mono fun x hx vs H1 M1 k1 e1 r1 => ?_⟩
  split at hx
  · rename_i hl
    refine ⟨by rw [r1.length]; exact le_line hl, fun p hp => ?_⟩
    have g := Grow.alloc e1.mok (o := .tup vs) hp rfl
    exact hx _ _ _ (k1.trans (.of g)) (e1.grow g) (Rep.newT (e1.mok.free hp) r1)
  · exact hx.elim
theorem de_lst {es : List Expr} {f : Env B → R (List D)} (h : DA X c es f) : DE X c (.List es pos) (eLst f) := by
  refine ⟨PE.imp (pe_lst h.pa) fun σ H Q ⟨I, M, ρ, e, q⟩ => ?_⟩
  refine ⟨I, M, ρ, e, q.bind.mono fun x hx vs H1 M1 k1 e1 r1 => ?_⟩
  split at hx
  · rename_i hl
    refine ⟨by rw [r1.length]; exact le_line hl, fun p hp => ?_⟩
    have g := Grow.alloc e1.mok (o := .lst vs) hp rfl
    exact hx _ _ _ (k1.trans (.of g)) (e1.grow g) (Rep.newL (e1.mok.free hp) r1)
  · exact hx.elim
end
end PL

set_option Elab.async false
set_option linter.all false
set_option maxRecDepth 100000
set_option maxHeartbeats 4000000
/-! operators, comparisons, items, slices, built-in calls over data -/
namespace PL
open PySem PySem.Spec PyProof.Rows L2
section
variable {B : ObjB} {X : Cx} {c : Ctx B} {k : Nat} {pos : Pos} {a b : Expr} {f g : Env B → R D}

/-! ### arithmetic -/
def dAdd : D → D → R D
  | .int i, .int j => .ok (.int (i + j))
  | .str x, .str y => if x.length + y.length ≤ 100000 then .ok (.str (x ++ y)) else .stuck
  | .list xs, .list ys => if xs.length + ys.length ≤ 100000 then .ok (.list (xs ++ ys)) else .stuck
  | .tuple xs, .tuple ys => if xs.length + ys.length ≤ 100000 then .ok (.tuple (xs ++ ys)) else .stuck
  | _, _ => .stuck
theorem le_line5 {n : Nat} (h : n ≤ 100000) : n ≤ sizeLine := Nat.le_trans h (by decide)
abbrev rAddS : R2 := fun x y H Q => ∃ i j, x = .str i ∧ y = .str j ∧ i.length + j.length ≤ sizeLine ∧ Q (.str (i ++ j)) H
abbrev rAddD (K : PySem.W.Frag) : R2 := fun x y H Q => (rI0 (fun i j => .int (i + j))) x y H Q ∨ rAddS x y H Q ∨ rCat x y H Q ∨ rCatA K x y H Q
theorem op_addD : OpR X (binaryOp .Add) (rAddD X.K) := op_add.or (op_add_str.or (op_cat.or op_catA))
theorem ok_add {K : PySem.W.Frag} : Ok2 K (rAddD K) dAdd := by
  intro M H v w dv dw d Q k rv rw' h q
  unfold dAdd at h
  split at h
  · cases rv; cases rw'
    cases h
    exact .inl ⟨_, _, rfl, rfl, q _ _ _ (.refl k) (.int _)⟩
  · cases rv; cases rw'
    split at h
    · rename_i hl
      cases h
      exact .inr (.inl ⟨_, _, rfl, rfl, le_line5 hl, q _ _ _ (.refl k) (.str _)⟩)
    · cases h
  · cases rv with
    | lst ha ra =>
      cases rw' with
      | lst hb rb =>
        split at h
        · rename_i hl
          cases h
          refine .inr (.inr (.inl ⟨_, _, _, _, rfl, rfl, k.same _ _ ha, k.same _ _ hb, ?_, fun p hp => ?_⟩))
          · rw [ra.length, rb.length]; exact le_line5 hl
          · exact q _ _ _ (.alloc k hp rfl) (.newL (k.free hp) (ra.append rb))
        · cases h
  · cases rv with
    | tup ha ra =>
      cases rw' with
      | tup hb rb =>
        split at h
        · rename_i hl
          cases h
          have la := ra.length
          have lb := rb.length
          refine .inr (.inr (.inr ⟨_, _, _, _, rfl, rfl, sqT_same k.same ha, sqT_same k.same hb, ?_, fun e => ?_, fun _ e => ?_, fun _ _ p hp => ?_⟩))
          · rw [la, lb]; exact le_line5 hl
          · subst e
            cases ra
            exact q _ _ _ (.refl k) (.tup hb rb)
          · subst e
            cases rb
            rw [List.append_nil] at q
            exact q _ _ _ (.refl k) (.tup ha ra)
          · exact q _ _ _ (.alloc k hp rfl) (.newT (k.free hp) (ra.append rb))
        · cases h
  · cases h
theorem de_add (K : c.K = X.K) (ha : DE X c a f) (hb : DE X c b g) : DE X c (.BinOp a .Add b pos) (e2 dAdd f g) := de_2 (fun p q => pe_op op_addD p q) (K ▸ ok_add) ha hb
def dSub : D → D → R D
  | .int i, .int j => .ok (.int (i - j))
  | _, _ => .stuck
theorem ok_sub {K : PySem.W.Frag} : Ok2 K (rI0 fun i j => .int (i - j)) dSub := by
  intro M H v w dv dw d Q k rv rw' h q
  unfold dSub at h
  split at h
  · cases rv; cases rw'; cases h
    exact ⟨_, _, rfl, rfl, q _ _ _ (.refl k) (.int _)⟩
  · cases h
theorem de_sub (ha : DE X c a f) (hb : DE X c b g) : DE X c (.BinOp a .Sub b pos) (e2 dSub f g) := de_2 (fun p q => pe_op op_sub p q) ok_sub ha hb
def small64 (i : Int) : Bool := decide (-(2 ^ 64) < i) && decide (i < 2 ^ 64)
def dMul : D → D → R D
  | .int i, .int j => if (small64 i || small64 j) = true then .ok (.int (i * j)) else .stuck
  | .list xs, .int k => if 0 ≤ k ∧ k ≤ 1000 ∧ xs.length ≤ 100 then .ok (.list (List.replicate k.toNat xs).flatten) else .stuck
  | .tuple xs, .int k => if 2 ≤ k ∧ k ≤ 1000 ∧ xs.length ≤ 100 ∧ xs.isEmpty = false then .ok (.tuple (List.replicate k.toNat xs).flatten) else .stuck
  | _, _ => .stuck
theorem Reps.rep {K : PySem.W.Frag} {M : Hp} {vs : List V} {ds : List D} (h : Reps K M vs ds) : ∀ n : Nat, Reps K M (List.replicate n vs).flatten (List.replicate n ds).flatten
  | 0 => .nil
  | n + 1 => by rw [List.replicate_succ, List.replicate_succ, List.flatten_cons, List.flatten_cons]; exact h.append (Reps.rep h n)
abbrev rMulI : R2 := rI CMul fun i j => .int (i * j)
abbrev rMulD (K : PySem.W.Frag) : R2 := fun x y H Q => rMulI x y H Q ∨ rRep x y H Q ∨ rRepT K x y H Q
theorem op_mulD : OpR X (binaryOp .Mult) (rMulD X.K) := op_mul.or (op_rep.or op_repT)
theorem ok_mul {K : PySem.W.Frag} : Ok2 K (rMulD K) dMul := by
  intro M H v w dv dw d Q k rv rw' h q
  unfold dMul at h
  split at h
  · cases rv; cases rw'
    split at h
    · rename_i hs
      cases h
      refine .inl ⟨_, _, rfl, rfl, ?_, q _ _ _ (.refl k) (.int _)⟩
      simp only [small64, Bool.or_eq_true, Bool.and_eq_true, decide_eq_true_eq] at hs
      exact hs
    · cases h
  · cases rw'
    cases rv with
    | lst ha ra =>
      split at h
      · rename_i hs
        obtain ⟨h1, h2, h3⟩ := hs
        cases h
        refine .inr (.inl ⟨_, _, _, rfl, rfl, k.same _ _ ha, by omega, by omega, ?_, fun p hp => ?_⟩)
        · rw [ra.length]
          exact Nat.le_trans (Nat.mul_le_mul h3 (Int.toNat_le.mpr (by omega : _ ≤ ((1000 : Nat) : Int)))) (by decide)
        · exact q _ _ _ (.alloc k hp rfl) (.newL (k.free hp) (ra.rep _))
      · cases h
  · cases rw'
    cases rv with
    | tup ha ra =>
      split at h
      · rename_i hs
        obtain ⟨h1, h2, h3, h4⟩ := hs
        cases h
        refine .inr (.inr ⟨_, _, _, rfl, rfl, sqT_same k.same ha, ?_, h1, h2, ?_, fun p hp => ?_⟩)
        · intro e; subst e; cases ra; simp at h4
        · rw [ra.length]; omega
        · exact q _ _ _ (.alloc k hp rfl) (.newT (k.free hp) (ra.rep _))
      · cases h
  · cases h
theorem de_mul (K : c.K = X.K) (ha : DE X c a f) (hb : DE X c b g) : DE X c (.BinOp a .Mult b pos) (e2 dMul f g) := de_2 (fun p q => pe_op op_mulD p q) (K ▸ ok_mul) ha hb
def dDiv : D → D → R D
  | .int i, .int j => if 0 < j ∧ j < 1073741824 then .ok (.int (i / j)) else .stuck
  | _, _ => .stuck
def dMod : D → D → R D
  | .int i, .int j => if 0 < j then .ok (.int (i % j)) else .stuck
  | _, _ => .stuck
def dPow : D → D → R D
  | .int i, .int j => if 0 ≤ j ∧ j ≤ 1000000 ∧ i.natAbs < 2 ^ 64 then .ok (.int (i ^ j.toNat)) else .stuck
  | _, _ => .stuck
theorem ok_div {K : PySem.W.Frag} : Ok2 K (rI CDiv fun i j => .int (i / j)) dDiv := by
  intro M H v w dv dw d Q k rv rw' h q
  unfold dDiv at h
  split at h
  · cases rv; cases rw'
    split at h
    · rename_i hs
      cases h
      exact ⟨_, _, rfl, rfl, hs, q _ _ _ (.refl k) (.int _)⟩
    · cases h
  · cases h
theorem ok_mod {K : PySem.W.Frag} : Ok2 K (rI (fun _ j => 0 < j) fun i j => .int (i % j)) dMod := by
  intro M H v w dv dw d Q k rv rw' h q
  unfold dMod at h
  split at h
  · cases rv; cases rw'
    split at h
    · rename_i hs
      cases h
      exact ⟨_, _, rfl, rfl, hs, q _ _ _ (.refl k) (.int _)⟩
    · cases h
  · cases h
theorem ok_pow {K : PySem.W.Frag} : Ok2 K (rI CPow fun i j => .int (i ^ j.toNat)) dPow := by
  intro M H v w dv dw d Q k rv rw' h q
  unfold dPow at h
  split at h
  · cases rv; cases rw'
    split at h
    · rename_i hs
      cases h
      exact ⟨_, _, rfl, rfl, hs, q _ _ _ (.refl k) (.int _)⟩
    · cases h
  · cases h
theorem de_div (ha : DE X c a f) (hb : DE X c b g) : DE X c (.BinOp a .FloorDiv b pos) (e2 dDiv f g) := de_2 (fun p q => pe_op op_fdiv p q) ok_div ha hb
theorem de_mod (ha : DE X c a f) (hb : DE X c b g) : DE X c (.BinOp a .Mod b pos) (e2 dMod f g) := de_2 (fun p q => pe_op op_mod p q) ok_mod ha hb
theorem de_pow (ha : DE X c a f) (hb : DE X c b g) : DE X c (.BinOp a .Pow b pos) (e2 dPow f g) := de_2 (fun p q => pe_op op_pow p q) ok_pow ha hb
def dNeg : D → R D
  | .int i => .ok (.int (-i))
  | _ => .stuck
theorem ok_neg {K : PySem.W.Frag} : Ok1 K (rU fun i => .int (-i)) dNeg := by
  intro M H v dv d Q k rv h q
  unfold dNeg at h
  split at h
  · cases rv; cases h
    exact ⟨_, rfl, q _ _ _ (.refl k) (.int _)⟩
  · cases h
theorem de_neg (ha : DE X c a f) : DE X c (.UnaryOp .USub a pos) (e1 dNeg f) := de_1 (ta := tVar 0) (fun p => pe_un un_neg p) ok_neg ha

/-! ### comparisons -/
def dCmp (p : Int → Int → Bool) : D → D → R D
  | .int i, .int j => .ok (.bool (p i j))
  | _, _ => .stuck
theorem ok_cmp {K : PySem.W.Frag} (p : Int → Int → Bool) : Ok2 K (rI0 fun i j => .bl (p i j)) (dCmp p) := by
  intro M H v w dv dw d Q k rv rw' h q
  unfold dCmp at h
  split at h
  · cases rv; cases rw'; cases h
    exact ⟨_, _, rfl, rfl, q _ _ _ (.refl k) (.bl _)⟩
  · cases h
abbrev dLt := dCmp fun i j => decide (i < j)
abbrev dLe := dCmp fun i j => decide (i ≤ j)
abbrev dGt := dCmp fun i j => decide (j < i)
abbrev dGe := dCmp fun i j => decide (j ≤ i)
def dEq (x y : D) : R D := if (SeqAt.shaped x && SeqAt.shaped y) = true then .ok (.bool (PyData.eqv x y)) else .stuck
def dNe (x y : D) : R D := if (SeqAt.shaped x && SeqAt.shaped y) = true then .ok (.bool (!PyData.eqv x y)) else .stuck
theorem shaped_dp {K : PySem.W.Frag} {M H : Hp} (k : MOk M H) {v : V} {d : D} (s : SeqAt.shaped d = true) (r : Rep K M v d) : Dp K H v d := Dp.up k.same (r.dp (SeqAt.canLay_of_shaped s))
theorem ok_eq {K : PySem.W.Frag} : Ok2 K (rEqD K) dEq := by
  intro M H v w dv dw d Q k rv rw' h q
  unfold dEq at h
  split at h
  · rename_i hs
    obtain ⟨s1, s2⟩ := Bool.and_eq_true_iff.mp hs
    cases h
    exact ⟨_, _, shaped_dp k s1 rv, shaped_dp k s2 rw', s1, s2, q _ _ _ (.refl k) (.bl _)⟩
  · cases h
theorem ok_ne {K : PySem.W.Frag} : Ok2 K (rNeD K) dNe := by
  intro M H v w dv dw d Q k rv rw' h q
  unfold dNe at h
  split at h
  · rename_i hs
    obtain ⟨s1, s2⟩ := Bool.and_eq_true_iff.mp hs
    cases h
    exact ⟨_, _, shaped_dp k s1 rv, shaped_dp k s2 rw', s1, s2, q _ _ _ (.refl k) (.bl _)⟩
  · cases h
/-- in, over a list or a tuple -/
def dIn : D → D → R D
  | x, .list ys => if (SeqAt.shaped x && SeqAt.shaped (.list ys)) = true then .ok (.bool (ys.any fun z => PyData.eqv z x)) else .stuck
  | x, .tuple ys => if (SeqAt.shaped x && SeqAt.shaped (.tuple ys)) = true then .ok (.bool (ys.any fun z => PyData.eqv z x)) else .stuck
  | _, _ => .stuck
def dNotIn : D → D → R D
  | x, .list ys => if (SeqAt.shaped x && SeqAt.shaped (.list ys)) = true then .ok (.bool (!ys.any fun z => PyData.eqv z x)) else .stuck
  | x, .tuple ys => if (SeqAt.shaped x && SeqAt.shaped (.tuple ys)) = true then .ok (.bool (!ys.any fun z => PyData.eqv z x)) else .stuck
  | _, _ => .stuck
def rInT (K : PySem.W.Frag) : R2 := fun x y H Q => ∃ d ds, Dp K H x d ∧ Dp K H y (.tuple ds) ∧ SeqAt.shaped d = true ∧ SeqAt.shaped (.tuple ds) = true ∧ Q (.bl (ds.any fun z => PyData.eqv z d)) H
def rNotInT (K : PySem.W.Frag) : R2 := fun x y H Q => ∃ d ds, Dp K H x d ∧ Dp K H y (.tuple ds) ∧ SeqAt.shaped d = true ∧ SeqAt.shaped (.tuple ds) = true ∧ Q (.bl (!ds.any fun z => PyData.eqv z d)) H
theorem op_inT (hu : X.A.units + 65 < cLine) : OpR X (compareOp .In) (rInT X.K) := by
  intro pins s σ H x y v u Q I rx ry h
  obtain ⟨d, ds, hd, he, sd, se, q⟩ := h
  obtain ⟨as, r1⟩ := Dp.reads I d x v hd rx
  obtain ⟨bs, r2⟩ := Dp.reads I (.tuple ds) y u he ry
  exact SeqAt.in_tuple_reads r2 r1 (SeqAt.canLay_of_shaped se) (SeqAt.canLay_of_shaped sd) (room_in_shaped sd hu) ⟨.bl _, H, I, rfl, q⟩
theorem op_notInT (hu : X.A.units + 65 < cLine) : OpR X (compareOp .NotIn) (rNotInT X.K) := by
  intro pins s σ H x y v u Q I rx ry h
  obtain ⟨d, ds, hd, he, sd, se, q⟩ := h
  obtain ⟨as, r1⟩ := Dp.reads I d x v hd rx
  obtain ⟨bs, r2⟩ := Dp.reads I (.tuple ds) y u he ry
  exact SeqAt.notIn_tuple_reads r2 r1 (SeqAt.canLay_of_shaped se) (SeqAt.canLay_of_shaped sd) (room_in_shaped sd hu) ⟨.bl _, H, I, rfl, q⟩
abbrev rInA (K : PySem.W.Frag) : R2 := fun x y H Q => rInD K x y H Q ∨ rInT K x y H Q
abbrev rNotInA (K : PySem.W.Frag) : R2 := fun x y H Q => rNotInD K x y H Q ∨ rNotInT K x y H Q
theorem ok_in {K : PySem.W.Frag} : Ok2 K (rInA K) dIn := by
  intro M H v w dv dw d Q k rv rw' h q
  unfold dIn at h
  split at h
  · split at h
    · rename_i hs
      obtain ⟨s1, s2⟩ := Bool.and_eq_true_iff.mp hs
      cases h
      exact .inl ⟨_, _, shaped_dp k s1 rv, shaped_dp k s2 rw', s1, s2, q _ _ _ (.refl k) (.bl _)⟩
    · cases h
  · split at h
    · rename_i hs
      obtain ⟨s1, s2⟩ := Bool.and_eq_true_iff.mp hs
      cases h
      exact .inr ⟨_, _, shaped_dp k s1 rv, shaped_dp k s2 rw', s1, s2, q _ _ _ (.refl k) (.bl _)⟩
    · cases h
  · cases h
theorem ok_notIn {K : PySem.W.Frag} : Ok2 K (rNotInA K) dNotIn := by
  intro M H v w dv dw d Q k rv rw' h q
  unfold dNotIn at h
  split at h
  · split at h
    · rename_i hs
      obtain ⟨s1, s2⟩ := Bool.and_eq_true_iff.mp hs
      cases h
      exact .inl ⟨_, _, shaped_dp k s1 rv, shaped_dp k s2 rw', s1, s2, q _ _ _ (.refl k) (.bl _)⟩
    · cases h
  · split at h
    · rename_i hs
      obtain ⟨s1, s2⟩ := Bool.and_eq_true_iff.mp hs
      cases h
      exact .inr ⟨_, _, shaped_dp k s1 rv, shaped_dp k s2 rw', s1, s2, q _ _ _ (.refl k) (.bl _)⟩
    · cases h
  · cases h
/-- is, is not: None, truth values -/
def dIs : D → D → R D
  | x, .none => .ok (.bool (match x with | .none => true | _ => false))
  | .bool x, .bool y => .ok (.bool (decide (x = y)))
  | _, _ => .stuck
def dIsNot : D → D → R D
  | x, .none => .ok (.bool (match x with | .none => false | _ => true))
  | .bool x, .bool y => .ok (.bool (!decide (x = y)))
  | _, _ => .stuck
abbrev rIsNon : R2 := fun x y H Q => y = .non ∧ Q (.bl (decide (x = .non))) H
abbrev rNotNon : R2 := fun x y H Q => y = .non ∧ Q (.bl (!decide (x = .non))) H
abbrev rIsD : R2 := fun x y H Q => rIsNon x y H Q ∨ rIsB x y H Q
abbrev rIsNotD : R2 := fun x y H Q => rNotNon x y H Q ∨ rNotB x y H Q
theorem ok_is {K : PySem.W.Frag} : Ok2 K rIsD dIs := by
  intro M H v w dv dw d Q k rv rw' h q
  unfold dIs at h
  split at h
  · cases h
    cases rw'
    refine .inl ⟨rfl, ?_⟩
    cases rv <;> exact q _ _ _ (.refl k) (.bl _)
  · cases h
    cases rv; cases rw'
    exact .inr ⟨_, _, rfl, rfl, q _ _ _ (.refl k) (.bl _)⟩
  · cases h
theorem ok_isNot {K : PySem.W.Frag} : Ok2 K rIsNotD dIsNot := by
  intro M H v w dv dw d Q k rv rw' h q
  unfold dIsNot at h
  split at h
  · cases h
    cases rw'
    refine .inl ⟨rfl, ?_⟩
    cases rv <;> exact q _ _ _ (.refl k) (.bl _)
  · cases h
    cases rv; cases rw'
    exact .inr ⟨_, _, rfl, rfl, q _ _ _ (.refl k) (.bl _)⟩
  · cases h
/-- a comparison's operator, its function -/
structure CmpD (X : Cx) (op : CmpOp) (F : D → D → R D) where
  r : R2
  op : OpR X (compareOp op) r
  ok : Ok2 X.K r F
end
section
variable {X : Cx} {k : Nat}
theorem units65 (h : Room k X.A) : X.A.units + 65 < cLine := by have := h.un; omega
theorem units64 (h : Room k X.A) : X.A.units + 64 < cLine := by have := h.un; omega
def cLt : CmpD X .Lt dLt := ⟨_, op_lt, ok_cmp _⟩
def cLe : CmpD X .LtE dLe := ⟨_, op_le, ok_cmp _⟩
def cGt : CmpD X .Gt dGt := ⟨_, op_gt, ok_cmp _⟩
def cGe : CmpD X .GtE dGe := ⟨_, op_ge, ok_cmp _⟩
def cEq (h : Room k X.A) : CmpD X .Eq dEq := ⟨_, op_eqD (units64 h), ok_eq⟩
def cNe (h : Room k X.A) : CmpD X .NotEq dNe := ⟨_, op_neD (units64 h), ok_ne⟩
def cIn (h : Room k X.A) : CmpD X .In dIn := ⟨_, (op_inD (units65 h)).or (op_inT (units65 h)), ok_in⟩
def cNotIn (h : Room k X.A) : CmpD X .NotIn dNotIn := ⟨_, (op_notInD (units65 h)).or (op_notInT (units65 h)), ok_notIn⟩
def cIs : CmpD X .Is dIs := ⟨_, op_isN.or op_isBl, ok_is⟩
def cIsNot : CmpD X .IsNot dIsNot := ⟨_, op_notN.or op_notBl, ok_isNot⟩
variable {B : ObjB} {c : Ctx B} {pos : Pos} {a b d : Expr} {f g h : Env B → R D} {op op' : CmpOp} {F F' : D → D → R D}
theorem de_cmp (C : CmpD X op F) (K : c.K = X.K) (ha : DE X c a f) (hb : DE X c b g) (hm : behindInMarks op b = false) : DE X c (.Compare a [op] [b] pos) (e2 F f g) :=
  de_2 (fun p q => pe_cmpR C.op p q hm) (K ▸ C.ok) ha hb
/-- a < b < d -/
def eChain (F F' : D → D → R D) (f g h : Env B → R D) : Env B → R D := fun ρ => (f ρ).bind fun x => (g ρ).bind fun y => (noE (F x y)).bind fun z => match z with
  | .bool true => (h ρ).bind fun w => noE (F' y w)
  | .bool false => .ok (.bool false)
  | _ => .stuck
/-- F gives truth values alone -/
def TruthV (r : R2) : Prop := ∀ x y H (Q : VK), r x y H Q → r x y H fun v H' => Q v H'
end
end PL

set_option Elab.async false
set_option linter.all false
set_option maxRecDepth 100000
set_option maxHeartbeats 4000000
/-! tests, chains, items, slices, built-in calls -/
namespace PL
open PySem PySem.Spec PyProof.Rows L2
section
variable {B : ObjB} {X : Cx} {c : Ctx B} {k : Nat} {pos : Pos} {a b d e : Expr} {f g h : Env B → R D} {op op' : CmpOp} {F F' : D → D → R D}

/-! ### truth values -/
def toB : D → R Bool
  | .bool b => .ok b
  | _ => .stuck
def tV (f : Env B → R D) : Env B → R Bool := fun ρ => (f ρ).bind toB
theorem tV_imp {σ : L2.St} {H : Hp} {Q : Bool → Hp → Prop} (h : tDT c (tV f) σ H Q) : tD c f σ H fun x H' => ∃ k, x = .bl k ∧ Q k H' := by
  obtain ⟨I, M, ρ, e, q⟩ := h
  refine ⟨I, M, ρ, e, q.bind.mono fun x hx v H1 M1 k1 e1 r1 => ?_⟩
  unfold toB at hx
  split at hx
  · cases r1
    exact ⟨_, rfl, hx H1 M1 k1 e1⟩
  · exact hx.elim
theorem dt_val (h : DE X c e f) (he : ∀ whole, isTrue e X.env whole = (do let v ← whole; standAt e.pos; holding [v] (truthy v)) := by intro _; rfl) : DT X c e (tV f) :=
  ⟨PT.imp (pt_val h.pe he) fun σ H Q q => tV_imp q⟩
theorem imp2 {r : R2} (hF : Ok2 c.K r F) {σ : L2.St} {H : Hp} {Q : VK} (q : tD c (e2 F f g) σ H Q) : tOp r (tD c f) (tD c g) σ H Q := by
  obtain ⟨I, M, ρ, e, q⟩ := q
  refine ⟨I, M, ρ, e, q.bind.mono fun x hx v H1 M1 k1 e1 r1 => ?_⟩
  refine ⟨I, M1, ρ, e1, hx.bind.mono fun y hy u H2 M2 k2 e2 r2 => ?_⟩
  obtain ⟨d, hd, hp⟩ := hy.noE
  exact hF M2 H2 v u x y d Q e2.mok (r1.same k2.m) r2 hd (post_grow hp (k1.trans k2) e2)
theorem dt_cmp (C : CmpD X op F) (K : c.K = X.K) (ha : DE X c a f) (hb : DE X c b g) (hm : behindInMarks op b = false) : DT X c (.Compare a [op] [b] pos) (tV (e2 F f g)) :=
  ⟨PT.imp (pt_cmpR C.op ha.pe hb.pe hm) fun σ H Q q => imp2 (K ▸ C.ok) (tV_imp q)⟩
theorem impChain {r r' : R2} (hF : Ok2 c.K r F) (hF' : Ok2 c.K r' F') {σ : L2.St} {H : Hp} {Q : VK} (q : tD c (eChain F F' f g h) σ H Q) : tChain r r' (tD c f) (tD c g) (tD c h) σ H Q := by
  obtain ⟨I, M, ρ, e, q⟩ := q
  refine ⟨I, M, ρ, e, q.bind.mono fun x hx v H1 M1 k1 e1 r1 => ?_⟩
  refine ⟨I, M1, ρ, e1, hx.bind.mono fun y hy u H2 M2 k2 e2 r2 => ?_⟩
  obtain ⟨z, hz, hp⟩ := hy.bind.noE
  refine hF M2 H2 v u x y z _ e2.mok (r1.same k2.m) r2 hz fun w H3 M3 g3 r3 => ?_
  have e3 := e2.grow g3
  have k3 : Step I.b M2 H2 M3 H3 := .of g3
  split at hp
  · cases r3
    refine ⟨true, rfl, ?_⟩
    rw [if_pos rfl]
    refine ⟨I, M3, ρ, e3, hp.bind.mono fun w hw v4 H4 M4 k4 e4 r4 => ?_⟩
    obtain ⟨d, hd, hp⟩ := hw.noE
    exact hF' M4 H4 u v4 y w d Q e4.mok (r2.same (g3.m.trans k4.m)) r4 hd (post_grow hp (((k1.trans k2).trans k3).trans k4) e4)
  · cases r3
    refine ⟨false, rfl, ?_⟩
    rw [if_neg Bool.false_ne_true]
    exact hp _ H3 M3 ((k1.trans k2).trans k3) e3 (.bl _)
  · exact hp.elim
theorem de_chain (C : CmpD X op F) (C' : CmpD X op' F') (K : c.K = X.K) (ha : DE X c a f) (hb : DE X c b g) (hc : DE X c d h) (hm : lastMarks [op, op'] [b, d] = false := by with_unfolding_all rfl) :
    DE X c (.Compare a [op, op'] [b, d] pos) (eChain F F' f g h) := ⟨PE.imp (pe_chain C.op C'.op ha.pe hb.pe hc.pe hm) fun σ H Q q => impChain (K ▸ C.ok) (K ▸ C'.ok) q⟩
theorem dt_chain (C : CmpD X op F) (C' : CmpD X op' F') (K : c.K = X.K) (ha : DE X c a f) (hb : DE X c b g) (hc : DE X c d h) (hm : lastMarks [op, op'] [b, d] = false := by with_unfolding_all rfl) :
    DT X c (.Compare a [op, op'] [b, d] pos) (tV (eChain F F' f g h)) := ⟨PT.imp (pt_chain C.op C'.op ha.pe hb.pe hc.pe hm) fun σ H Q q => impChain (K ▸ C.ok) (K ▸ C'.ok) (tV_imp q)⟩
/-- and, or, not as tests -/
def tAndD (f g : Env B → R Bool) : Env B → R Bool := fun ρ => (f ρ).bind fun x => if x = true then g ρ else .ok false
def tOrD (f g : Env B → R Bool) : Env B → R Bool := fun ρ => (f ρ).bind fun x => if x = true then .ok true else g ρ
def tNotD (f : Env B → R Bool) : Env B → R Bool := fun ρ => (f ρ).bind fun x => .ok (!x)
variable {u v : Env B → R Bool} {rest : List Expr}
theorem dw_and1 (h : DT X c a u) : DW X c (.BoolOp .And [a] pos) u := ⟨pw_and1 h.pt⟩
theorem dw_or1 (h : DT X c a u) : DW X c (.BoolOp .Or [a] pos) u := ⟨pw_or1 h.pt⟩
theorem dw_and (h : DT X c a u) (h' : DW X c (.BoolOp .And (b :: rest) pos) v) : DW X c (.BoolOp .And (a :: b :: rest) pos) (tAndD u v) := by
  refine ⟨PW.imp (pw_and h.pt h'.pw) fun σ H Q ⟨I, M, ρ, e, q⟩ => ?_⟩
  refine ⟨I, M, ρ, e, q.bind.mono fun x hx H1 M1 k1 e1 => ?_⟩
  cases x with
  | true => exact ⟨I, M1, ρ, e1, RD.mono hx fun y hy H2 M2 k2 e2 => hy H2 M2 (k1.trans k2) e2⟩
  | false => exact hx H1 M1 k1 e1
theorem dw_or (h : DT X c a u) (h' : DW X c (.BoolOp .Or (b :: rest) pos) v) : DW X c (.BoolOp .Or (a :: b :: rest) pos) (tOrD u v) := by
  refine ⟨PW.imp (pw_or h.pt h'.pw) fun σ H Q ⟨I, M, ρ, e, q⟩ => ?_⟩
  refine ⟨I, M, ρ, e, q.bind.mono fun x hx H1 M1 k1 e1 => ?_⟩
  cases x with
  | true => exact hx H1 M1 k1 e1
  | false => exact ⟨I, M1, ρ, e1, RD.mono hx fun y hy H2 M2 k2 e2 => hy H2 M2 (k1.trans k2) e2⟩
theorem dt_w (h : DW X c e u) : DT X c e u := ⟨h.pw.pt⟩
theorem dt_not (h : DT X c a u) : DT X c (.UnaryOp .Not a pos) (tNotD u) := by
  refine ⟨PT.imp (pt_not h.pt) fun σ H Q ⟨I, M, ρ, e, q⟩ => ?_⟩
  exact ⟨I, M, ρ, e, q.bind.mono fun x hx H1 M1 k1 e1 => hx H1 M1 k1 e1⟩
/-- .. as values -/
def eAnd (f g : Env B → R D) : Env B → R D := fun ρ => (f ρ).bind fun x => (toB x).bind fun x => if x = true then g ρ else .ok (.bool false)
def eOr (f g : Env B → R D) : Env B → R D := fun ρ => (f ρ).bind fun x => (toB x).bind fun x => if x = true then .ok (.bool true) else g ρ
def eNot (f : Env B → R D) : Env B → R D := fun ρ => (f ρ).bind fun x => (toB x).bind fun x => .ok (.bool !x)
theorem toB_rd {I : Ent} {x : D} {P : Bool → Prop} (h : RD c I (toB x) P) : ∃ b, x = .bool b ∧ P b := by
  unfold toB at h
  split at h
  · exact ⟨_, rfl, h⟩
  · exact h.elim
theorem de_one {op} (h : DE X c a f) : DE X c (.BoolOp op [a] pos) f := ⟨pe_one h.pe⟩
theorem de_and (ha : DE X c a f) (hb : DE X c (.BoolOp .And (b :: rest) pos) g) : DE X c (.BoolOp .And (a :: b :: rest) pos) (eAnd f g) := by
  refine ⟨PE.imp (pe_and ha.pe hb.pe) fun σ H Q ⟨I, M, ρ, e, q⟩ => ?_⟩
  refine ⟨I, M, ρ, e, q.bind.mono fun x hx v H1 M1 k1 e1 r1 => ?_⟩
  obtain ⟨b, rfl, hb⟩ := toB_rd hx.bind
  cases r1
  refine ⟨b, rfl, ?_⟩
  cases b with
  | true => exact ⟨I, M1, ρ, e1, RD.mono hb fun y hy v2 H2 M2 k2 e2 r2 => hy v2 H2 M2 (k1.trans k2) e2 r2⟩
  | false => exact hb _ H1 M1 k1 e1 (.bl _)
theorem de_or (ha : DE X c a f) (hb : DE X c (.BoolOp .Or (b :: rest) pos) g) : DE X c (.BoolOp .Or (a :: b :: rest) pos) (eOr f g) := by
  refine ⟨PE.imp (pe_or ha.pe hb.pe) fun σ H Q ⟨I, M, ρ, e, q⟩ => ?_⟩
  refine ⟨I, M, ρ, e, q.bind.mono fun x hx v H1 M1 k1 e1 r1 => ?_⟩
  obtain ⟨b, rfl, hb⟩ := toB_rd hx.bind
  cases r1
  refine ⟨b, rfl, ?_⟩
  cases b with
  | true => exact hb _ H1 M1 k1 e1 (.bl _)
  | false => exact ⟨I, M1, ρ, e1, RD.mono hb fun y hy v2 H2 M2 k2 e2 r2 => hy v2 H2 M2 (k1.trans k2) e2 r2⟩
theorem de_not (ha : DE X c a f) : DE X c (.UnaryOp .Not a pos) (eNot f) := by
  refine ⟨PE.imp (pe_not ha.pe) fun σ H Q ⟨I, M, ρ, e, q⟩ => ?_⟩
  refine ⟨I, M, ρ, e, q.bind.mono fun x hx v H1 M1 k1 e1 r1 => ?_⟩
  obtain ⟨b, rfl, hb⟩ := toB_rd hx.bind
  cases r1
  exact ⟨b, rfl, hb _ H1 M1 k1 e1 (.bl _)⟩
def eIf (t : Env B → R Bool) (f g : Env B → R D) : Env B → R D := fun ρ => (t ρ).bind fun x => if x = true then f ρ else g ρ
theorem de_if {t : Expr} (ht : DT X c t u) (ha : DE X c a f) (hb : DE X c b g) : DE X c (.IfExp t a b pos) (eIf u f g) := by
  refine ⟨PE.imp (pe_ifExp ht.pt ha.pe hb.pe) fun σ H Q ⟨I, M, ρ, e, q⟩ => ?_⟩
  refine ⟨I, M, ρ, e, q.bind.mono fun x hx H1 M1 k1 e1 => ?_⟩
  cases x with
  | true => exact ⟨I, M1, ρ, e1, RD.mono hx fun y hy v2 H2 M2 k2 e2 r2 => hy v2 H2 M2 (k1.trans k2) e2 r2⟩
  | false => exact ⟨I, M1, ρ, e1, RD.mono hx fun y hy v2 H2 M2 k2 e2 r2 => hy v2 H2 M2 (k1.trans k2) e2 r2⟩

/-! ### items -/
/-- the items of what is walked or read by place -/
def itemsOf : D → Option (List D)
  | .list xs => some xs
  | .tuple xs => some xs
  | .dict [(.none, .list xs)] => some xs
  | _ => none
def dIx : D → D → R D
  | x, .int i => match itemsOf x with
    | some xs => match atI xs i with
      | some y => .ok y
      | none => .stuck
    | none => .stuck
  | _, _ => .stuck
theorem Reps.atI {K : PySem.W.Frag} {M : Hp} {vs : List V} {ds : List D} (h : Reps K M vs ds) {i : Int} {y : D} (e : L2.atI ds i = some y) : ∃ v, L2.atI vs i = some v ∧ Rep K M v y := by
  unfold L2.atI at e ⊢
  rw [h.length]
  cases q : ixN ds.length i with
  | none => rw [q] at e; cases e
  | some j =>
    rw [q] at e
    exact h.get e
theorem Rep.items {K : PySem.W.Frag} {M H : Hp} (k : MOk M H) {v : V} {x : D} {xs : List D} (r : Rep K M v x) (e : itemsOf x = some xs) : ∃ p vs, v = .ref p ∧ (SqL K H p vs ∨ SqT K H p vs) ∧ Reps K M vs xs := by
  unfold itemsOf at e
  split at e
  · cases e
    cases r with
    | lst h q => exact ⟨_, _, rfl, .inl (SqL.of (k.same _ _ h)), q⟩
  · cases e
    cases r with
    | tup h q => exact ⟨_, _, rfl, .inr (sqT_same k.same h), q⟩
  · cases e
    cases r with
    | scr h q => exact ⟨_, _, rfl, .inl (k.same.seq h), q⟩
  · cases e
abbrev rIxLT (K : PySem.W.Frag) : R2 := fun x y H Q => rIxL K x y H Q ∨ rIxT K x y H Q
theorem ix_lt : IxR X (rIxLT X.K) := ix_list.or ix_tup
theorem ok_ix {K : PySem.W.Frag} : Ok2 K (rIxLT K) dIx := by
  intro M H v w dv dw d Q k rv rw' h q
  unfold dIx at h
  split at h
  · split at h
    · rename_i xs hx
      split at h
      · rename_i y hy
        cases h
        cases rw'
        obtain ⟨p, vs, rfl, hs, r⟩ := rv.items k hx
        obtain ⟨u, hu, ru⟩ := r.atI hy
        rcases hs with hs | hs
        · exact .inl ⟨_, _, _, _, rfl, rfl, hs, hu, q _ _ _ (.refl k) ru⟩
        · exact .inr ⟨_, _, _, _, rfl, rfl, hs, hu, q _ _ _ (.refl k) ru⟩
      · cases h
    · cases h
  · cases h
theorem de_ix (K : c.K = X.K) (ha : DE X c a f) (hb : DE X c b g) (hs : PlainIx b := by intro _ _; rfl) : DE X c (.Subscript a b pos) (e2 dIx f g) :=
  de_2 (fun p q => pe_ix ix_lt p q hs) (K ▸ ok_ix) ha hb

/-! ### slices -/
def tDO (c : Ctx B) (f : Env B → R (Option Int)) : TO := fun σ H Q => ∃ I M ρ, EnvR c.K I M H σ ρ ∧ RD c I (f ρ) fun o => ∀ H' M', Step I.b M H M' H' → EnvR c.K I M' H' σ ρ → Q o H'
structure DO (X : Cx) (c : Ctx B) (e : Option Expr) (f : Env B → R (Option Int)) : Prop where
  po : PO X e (tDO c f)
theorem PO.imp {e : Option Expr} {t u : TO} (h : PO X e t) (k : ∀ σ H Q, u σ H Q → t σ H Q) : PO X e u := ⟨fun pins s σ H Q I q => h.run pins s σ H Q I (k σ H Q q)⟩
def oNone : Env B → R (Option Int) := fun _ => .ok none
def oSome (f : Env B → R D) : Env B → R (Option Int) := fun ρ => (f ρ).bind fun x => match x with
  | .int i => .ok (some i)
  | _ => .stuck
theorem do_none : DO X c none (oNone : Env B → R (Option Int)) := ⟨PO.imp po_none fun σ H Q ⟨I, M, ρ, e, q⟩ => q H M .refl e⟩
theorem do_some (h : DE X c e f) : DO X c (some e) (oSome f) := by
  refine ⟨PO.imp (po_some h.pe) fun σ H Q ⟨I, M, ρ, e, q⟩ => ?_⟩
  refine ⟨I, M, ρ, e, q.bind.mono fun x hx v H1 M1 k1 e1 r1 => ?_⟩
  split at hx
  · cases r1
    exact ⟨_, rfl, hx H1 M1 k1 e1⟩
  · exact hx.elim
def cutD (xs : List D) (lo hi : Option Int) : List D := (xs.drop (HT.sIx xs.length 0 lo)).take (HT.sIx xs.length xs.length hi - HT.sIx xs.length 0 lo)
theorem Reps.cut {K : PySem.W.Frag} {M : Hp} {vs : List V} {ds : List D} (h : Reps K M vs ds) (lo hi : Option Int) : Reps K M (cutV vs lo hi) (cutD ds lo hi) := by
  unfold cutV cutD
  rw [h.length]
  exact (h.drop _).take _
theorem cutD_whole {xs : List D} {lo hi : Option Int} (h : HT.sIx xs.length 0 lo = 0 ∧ HT.sIx xs.length xs.length hi = xs.length) : cutD xs lo hi = xs := by
  unfold cutD
  rw [h.1, h.2]
  simp
def dSl (x : D) (lo hi : Option Int) : R D := match x with
  | .list xs => .ok (.list (cutD xs lo hi))
  | .tuple xs => .ok (.tuple (cutD xs lo hi))
  | _ => .stuck
def eSl (f : Env B → R D) (l u : Env B → R (Option Int)) : Env B → R D := fun ρ => (f ρ).bind fun x => (l ρ).bind fun lo => (u ρ).bind fun hi => noE (dSl x lo hi)
abbrev rSlA2 (K : PySem.W.Frag) : V → Option Int → Option Int → Hp → VK → Prop := fun x lo hi H Q => rSlL K x lo hi H Q ∨ rSlA K x lo hi H Q
theorem sl_lt : SlR X (rSlA2 X.K) := sl_list.or sl_tupA
theorem de_sl {lo hi : Option Expr} {l u : Env B → R (Option Int)} {p2 : Pos} (K : c.K = X.K) (he : DE X c e f) (hl : DO X c lo l) (hu : DO X c hi u) : DE X c (.Subscript e (.Slice lo hi none p2) pos) (eSl f l u) := by
  refine ⟨PE.imp (pe_slice sl_lt he.pe hl.po hu.po) fun σ H Q ⟨I, M, ρ, e, q⟩ => ?_⟩
  refine ⟨I, M, ρ, e, q.bind.mono fun x hx v H1 M1 k1 e1 r1 => ?_⟩
  refine ⟨I, M1, ρ, e1, hx.bind.mono fun lo hx H2 M2 k2 e2 => ?_⟩
  refine ⟨I, M2, ρ, e2, hx.bind.mono fun hi hx H3 M3 k3 e3 => ?_⟩
  obtain ⟨d, hd, hp⟩ := hx.noE
  have r3 := r1.same (k2.m.trans k3.m)
  have kk := (k1.trans k2).trans k3
  have fin := post_grow hp kk e3
  unfold dSl at hd
  split at hd
  · cases hd
    cases r3 with
    | lst h r =>
      exact .inl ⟨_, _, rfl, SqL.of (e3.mok.same _ _ h), fun p hp => fin _ _ _ (.alloc e3.mok hp rfl) (.newL (e3.mok.free hp) (r.cut lo hi))⟩
  · cases hd
    cases r3 with
    | tup h r =>
      refine .inr ⟨_, _, rfl, K ▸ sqT_same e3.mok.same h, fun w => ?_, fun _ p hp => fin _ _ _ (.alloc e3.mok hp rfl) (.newT (e3.mok.free hp) (r.cut lo hi))⟩
      rw [r.length] at w
      have ew := cutD_whole w
      rw [ew] at fin
      exact fin _ _ _ (.refl e3.mok) (.tup h r)
  · cases hd
/-- xs[::-1] of a list -/
def dRev : D → R D
  | .list xs => .ok (.list xs.reverse)
  | _ => .stuck
theorem de_rev {j : Nat} {p1 p2 p3 : Pos} (he : DE X c e f) : DE X c (.Subscript e (.Slice none none (some (.UnaryOp .USub (.Constant (.int 1) j p1) p2)) p3) pos) (e1 dRev f) := by
  refine ⟨PE.imp (pe_revL he.pe) fun σ H Q ⟨I, M, ρ, e, q⟩ => ?_⟩
  refine ⟨I, M, ρ, e, q.bind.mono fun x hx v H1 M1 k1 e1 r1 => ?_⟩
  obtain ⟨d, hd, hp⟩ := hx.noE
  unfold dRev at hd
  split at hd
  · cases hd
    cases r1 with
    | lst h r => exact ⟨_, _, rfl, SqL.of (e1.mok.same _ _ h), fun p hq => post_grow hp k1 e1 _ _ _ (.alloc e1.mok hq rfl) (.newL (e1.mok.free hq) r.reverse)⟩
  · cases hd

/-! ### built-in calls -/
def dLen : List D → R D
  | [x] => match itemsOf x with
    | some xs => .ok (.int xs.length)
    | none => .stuck
  | _ => .stuck
theorem ok_len {K : PySem.W.Frag} : OkA K (fun xs H Q => ∃ x n, xs = [x] ∧ LenV K x H n ∧ Q (.int n) H) dLen := by
  intro M H vs ds d Q k r h q
  unfold dLen at h
  split at h
  · split at h
    · rename_i xs hx
      cases h
      cases r with
      | cons r1 r2 =>
        cases r2
        obtain ⟨p, vs, rfl, hs, rr⟩ := r1.items k hx
        refine ⟨_, vs.length, rfl, ?_, ?_⟩
        · rcases hs with hs | hs
          · exact .inl ⟨_, hs, rfl⟩
          · exact .inr ⟨_, hs, rfl⟩
        · rw [rr.length]
          exact q _ _ _ (.refl k) (.int _)
    · cases h
  · cases h
theorem de_len {es : List Expr} {f : Env B → R (List D)} {p : Pos} (K : c.K = X.K) (hm : X.mg "len" = none) (ha : DA X c (e :: es) f) (hg : Gl X "len" := by rfl) (he : starEach (e :: es) X.env = (false, eval e X.env) :: starEach es X.env := by rfl) (hpl : (backTo pos (starEach es X.env)).any (·.1) = false := by rfl) :
    DE X c (.Call (.Name "len" p) (e :: es) [] pos) (eA dLen f) := de_A (fun q => pe_callB call_len hg hm PySem.boot_len q (he := he) (hpl := hpl)) (K ▸ ok_len) ha
/-- list(x), tuple(x) -/
def dList : List D → R D
  | [x] => match itemsOf x with
    | some xs => .ok (.list xs)
    | none => .stuck
  | _ => .stuck
def dTuple : List D → R D
  | [x] => match itemsOf x with
    | some xs => .ok (.tuple xs)
    | none => .stuck
  | _ => .stuck
theorem ok_list {K : PySem.W.Frag} : OkA K (fun xs H Q => ∃ p ys, xs = [.ref p] ∧ (SqL K H p ys ∨ SqT K H p ys) ∧ ∀ l, H l = none → Q (.ref l) (upd H l (.lst ys))) dList := by
  intro M H vs ds d Q k r h q
  unfold dList at h
  split at h
  · split at h
    · rename_i xs hx
      cases h
      cases r with
      | cons r1 r2 =>
        cases r2
        obtain ⟨p, vs, rfl, hs, rr⟩ := r1.items k hx
        exact ⟨_, _, rfl, hs, fun l hl => q _ _ _ (.alloc k hl rfl) (.newL (k.free hl) rr)⟩
    · cases h
  · cases h
theorem ok_tuple {K : PySem.W.Frag} : OkA K (fun xs H Q => ∃ p ys, xs = [.ref p] ∧ ((SqL K H p ys ∧ ∀ l, H l = none → Q (.ref l) (upd H l (.tup ys))) ∨ (SqT K H p ys ∧ Q (.ref p) H))) dTuple := by
  intro M H vs ds d Q k r h q
  unfold dTuple at h
  split at h
  · split at h
    · rename_i xs hx
      cases h
      cases r with
      | cons r1 r2 =>
        cases r2
        cases r1 with
        | tup h r =>
          cases hx
          exact ⟨_, _, rfl, .inr ⟨sqT_same k.same h, q _ _ _ (.refl k) (.tup h r)⟩⟩
        | lst h r =>
          cases hx
          exact ⟨_, _, rfl, .inl ⟨SqL.of (k.same _ _ h), fun l hl => q _ _ _ (.alloc k hl rfl) (.newT (k.free hl) r)⟩⟩
        | scr h r =>
          cases hx
          exact ⟨_, _, rfl, .inl ⟨k.same.seq h, fun l hl => q _ _ _ (.alloc k hl rfl) (.newT (k.free hl) r)⟩⟩
        | _ => cases hx
    · cases h
  · cases h
theorem boot_listT : bootBuiltins "list" = some (.type "list") := by decide +kernel
theorem boot_tupleT : bootBuiltins "tuple" = some (.type "tuple") := by decide +kernel
theorem boot_intT : bootBuiltins "int" = some (.type "int") := by decide +kernel
theorem boot_boolT : bootBuiltins "bool" = some (.type "bool") := by decide +kernel
theorem boot_strT : bootBuiltins "str" = some (.type "str") := by decide +kernel
theorem boot_sumB : bootBuiltins "sum" = some (.builtin "sum") := by decide +kernel
theorem boot_maxB : bootBuiltins "max" = some (.builtin "max") := by decide +kernel
theorem boot_minB : bootBuiltins "min" = some (.builtin "min") := by decide +kernel
theorem boot_allB : bootBuiltins "all" = some (.builtin "all") := by decide +kernel
theorem boot_isiB : bootBuiltins "isinstance" = some (.builtin "isinstance") := by decide +kernel
theorem de_list {es : List Expr} {f : Env B → R (List D)} {p : Pos} (K : c.K = X.K) (hm : X.mg "list" = none) (ha : DA X c (e :: es) f) (hg : Gl X "list" := by rfl) (he : starEach (e :: es) X.env = (false, eval e X.env) :: starEach es X.env := by rfl) (hpl : (backTo pos (starEach es X.env)).any (·.1) = false := by rfl) :
    DE X c (.Call (.Name "list" p) (e :: es) [] pos) (eA dList f) := de_A (fun q => pe_callTy call_list_of hg hm boot_listT q (he := he) (hpl := hpl)) (K ▸ ok_list) ha
theorem de_tuple {es : List Expr} {f : Env B → R (List D)} {p : Pos} (K : c.K = X.K) (hm : X.mg "tuple" = none) (ha : DA X c (e :: es) f) (hg : Gl X "tuple" := by rfl) (he : starEach (e :: es) X.env = (false, eval e X.env) :: starEach es X.env := by rfl) (hpl : (backTo pos (starEach es X.env)).any (·.1) = false := by rfl) :
    DE X c (.Call (.Name "tuple" p) (e :: es) [] pos) (eA dTuple f) := de_A (fun q => pe_callTy call_tuple_of hg hm boot_tupleT q (he := he) (hpl := hpl)) (K ▸ ok_tuple) ha
/-- int(x) of an int or a truth value -/
def dInt : List D → R D
  | [.int i] => .ok (.int i)
  | [.bool b] => .ok (.int (if b then 1 else 0))
  | _ => .stuck
theorem ok_int {K : PySem.W.Frag} : OkA K (fun xs H Q => (∃ i, xs = [.int i] ∧ Q (.int i) H) ∨ ∃ k, xs = [.bl k] ∧ Q (.int (if k then 1 else 0)) H) dInt := by
  intro M H vs ds d Q k r h q
  unfold dInt at h
  split at h
  · cases h
    cases r with
    | cons r1 r2 => cases r2; cases r1; exact .inl ⟨_, rfl, q _ _ _ (.refl k) (.int _)⟩
  · cases h
    cases r with
    | cons r1 r2 => cases r2; cases r1; exact .inr ⟨_, rfl, q _ _ _ (.refl k) (.int _)⟩
  · cases h
theorem de_intc {es : List Expr} {f : Env B → R (List D)} {p : Pos} (hm : X.mg "int" = none) (ha : DA X c (e :: es) f) (hg : Gl X "int" := by rfl) (he : starEach (e :: es) X.env = (false, eval e X.env) :: starEach es X.env := by rfl) (hpl : (backTo pos (starEach es X.env)).any (·.1) = false := by rfl) :
    DE X c (.Call (.Name "int" p) (e :: es) [] pos) (eA dInt f) := de_A (fun q => pe_callTy call_int1 hg hm boot_intT q (he := he) (hpl := hpl)) ok_int ha
/-- lists of ints, of truth values -/
def intsOf : List D → Option (List Int)
  | [] => some []
  | .int i :: r => (intsOf r).map (i :: ·)
  | _ :: _ => none
theorem intsOf_eq : ∀ {ds : List D} {ns : List Int}, intsOf ds = some ns → ds = ns.map PyData.int
  | [], ns, h => by simp [intsOf] at h; subst h; rfl
  | .int i :: r, ns, h => by
    simp only [intsOf, Option.map_eq_some_iff] at h
    obtain ⟨m, h1, rfl⟩ := h
    rw [intsOf_eq h1]; rfl
  | .none :: _, _, h | .bool _ :: _, _, h | .str _ :: _, _, h | .list _ :: _, _, h | .tuple _ :: _, _, h | .dict _ :: _, _, h => by simp [intsOf] at h
theorem intsOf_map (ns : List Int) : intsOf (ns.map PyData.int) = some ns := by
  induction ns with
  | nil => rfl
  | cons n r ih => simp [intsOf, ih]
def boolsOf : List D → Option (List Bool)
  | [] => some []
  | .bool i :: r => (boolsOf r).map (i :: ·)
  | _ :: _ => none
theorem boolsOf_eq : ∀ {ds : List D} {ns : List Bool}, boolsOf ds = some ns → ds = ns.map PyData.bool
  | [], ns, h => by simp [boolsOf] at h; subst h; rfl
  | .bool i :: r, ns, h => by
    simp only [boolsOf, Option.map_eq_some_iff] at h
    obtain ⟨m, h1, rfl⟩ := h
    rw [boolsOf_eq h1]; rfl
  | .none :: _, _, h | .int _ :: _, _, h | .str _ :: _, _, h | .list _ :: _, _, h | .tuple _ :: _, _, h | .dict _ :: _, _, h => by simp [boolsOf] at h
theorem boolsOf_map (ns : List Bool) : boolsOf (ns.map PyData.bool) = some ns := by
  induction ns with
  | nil => rfl
  | cons n r ih => simp [boolsOf, ih]
def dSum : List D → R D
  | [.list xs] => match intsOf xs with
    | some ns => .ok (.int ns.sum)
    | none => .stuck
  | _ => .stuck
def dAll : List D → R D
  | [.list xs] => match boolsOf xs with
    | some ns => .ok (.bool (ns.all id))
    | none => .stuck
  | _ => .stuck
def maxI : Int → List Int → Int
  | m, [] => m
  | m, n :: r => maxI (if m < n then n else m) r
def minI : Int → List Int → Int
  | m, [] => m
  | m, n :: r => minI (if n < m then n else m) r
theorem maxI_spec : ∀ (r : List Int) (m : Int), (maxI m r = m ∨ maxI m r ∈ r) ∧ m ≤ maxI m r ∧ ∀ y ∈ r, y ≤ maxI m r
  | [], m => ⟨.inl rfl, Int.le_refl _, fun y hy => by cases hy⟩
  | n :: r, m => by
    obtain ⟨h1, h2, h3⟩ := maxI_spec r (if m < n then n else m)
    have e : maxI m (n :: r) = maxI (if m < n then n else m) r := rfl
    rw [e]
    refine ⟨?_, ?_, fun y hy => ?_⟩
    · rcases h1 with h1 | h1
      · by_cases hc : m < n
        · rw [if_pos hc] at h1 ⊢; rw [h1]; exact .inr (by simp)
        · rw [if_neg hc] at h1 ⊢; rw [h1]; exact .inl rfl
      · exact .inr (List.mem_cons_of_mem _ h1)
    · by_cases hc : m < n
      · rw [if_pos hc] at h2 ⊢; omega
      · rw [if_neg hc] at h2 ⊢; exact h2
    · rcases List.mem_cons.mp hy with rfl | hy
      · by_cases hc : m < y
        · rw [if_pos hc] at h2 ⊢; exact h2
        · rw [if_neg hc] at h2 ⊢; omega
      · exact h3 y hy
theorem minI_spec : ∀ (r : List Int) (m : Int), (minI m r = m ∨ minI m r ∈ r) ∧ minI m r ≤ m ∧ ∀ y ∈ r, minI m r ≤ y
  | [], m => ⟨.inl rfl, Int.le_refl _, fun y hy => by cases hy⟩
  | n :: r, m => by
    obtain ⟨h1, h2, h3⟩ := minI_spec r (if n < m then n else m)
    have e : minI m (n :: r) = minI (if n < m then n else m) r := rfl
    rw [e]
    refine ⟨?_, ?_, fun y hy => ?_⟩
    · rcases h1 with h1 | h1
      · by_cases hc : n < m
        · rw [if_pos hc] at h1 ⊢; rw [h1]; exact .inr (by simp)
        · rw [if_neg hc] at h1 ⊢; rw [h1]; exact .inl rfl
      · exact .inr (List.mem_cons_of_mem _ h1)
    · by_cases hc : n < m
      · rw [if_pos hc] at h2 ⊢; omega
      · rw [if_neg hc] at h2 ⊢; exact h2
    · rcases List.mem_cons.mp hy with rfl | hy
      · by_cases hc : y < m
        · rw [if_pos hc] at h2 ⊢; exact h2
        · rw [if_neg hc] at h2 ⊢; omega
      · exact h3 y hy
def dMax : List D → R D
  | [.list xs] => match intsOf xs with
    | some (n :: r) => .ok (.int (maxI n r))
    | _ => .stuck
  | _ => .stuck
def dMin : List D → R D
  | [.list xs] => match intsOf xs with
    | some (n :: r) => .ok (.int (minI n r))
    | _ => .stuck
  | [.int i, .int j] => .ok (.int (if j < i then j else i))
  | _ => .stuck
theorem ok_sum {K : PySem.W.Frag} : OkA K (rSum K) dSum := by
  intro M H vs ds d Q k r h q
  unfold dSum at h
  split at h
  · split at h
    · rename_i ns hn
      cases h
      cases intsOf_eq hn
      cases r with
      | cons r1 r2 =>
        cases r2
        cases r1 with
        | lst h r =>
          cases r.ints
          exact ⟨_, _, rfl, SqL.of (k.same _ _ h), q _ _ _ (.refl k) (.int _)⟩
    · cases h
  · cases h
theorem ok_all {K : PySem.W.Frag} : OkA K (rAll K) dAll := by
  intro M H vs ds d Q k r h q
  unfold dAll at h
  split at h
  · split at h
    · rename_i ns hn
      cases h
      cases boolsOf_eq hn
      cases r with
      | cons r1 r2 =>
        cases r2
        cases r1 with
        | lst h r =>
          cases r.bools
          exact ⟨_, _, rfl, SqL.of (k.same _ _ h), q _ _ _ (.refl k) (.bl _)⟩
    · cases h
  · cases h
theorem ok_max {K : PySem.W.Frag} : OkA K (rMax K) dMax := by
  intro M H vs ds d Q k r h q
  unfold dMax at h
  split at h
  · split at h
    · rename_i n l hn
      cases h
      cases intsOf_eq hn
      cases r with
      | cons r1 r2 =>
        cases r2
        cases r1 with
        | lst h r =>
          cases r.ints
          refine ⟨_, _, rfl, SqL.of (k.same _ _ h), Nat.succ_pos _, fun m hm hy => ?_⟩
          obtain ⟨a1, a2, a3⟩ := maxI_spec l n
          have e : m = maxI n l := by
            apply Int.le_antisymm
            · rcases List.mem_cons.mp hm with rfl | hm
              · exact a2
              · exact a3 m hm
            · rcases a1 with a1 | a1
              · rw [a1]; exact hy n (by simp)
              · exact hy _ (List.mem_cons_of_mem _ a1)
          rw [e]
          exact q _ _ _ (.refl k) (.int _)
    · cases h
  · cases h
abbrev rMin2 : List V → Hp → VK → Prop := fun xs H Q => ∃ i j, xs = [.int i, .int j] ∧ Q (.int (if j < i then j else i)) H
theorem ok_min {K : PySem.W.Frag} : OkA K (fun xs H Q => rMin K xs H Q ∨ rMin2 xs H Q) dMin := by
  intro M H vs ds d Q k r h q
  unfold dMin at h
  split at h
  · split at h
    · rename_i n l hn
      cases h
      cases intsOf_eq hn
      cases r with
      | cons r1 r2 =>
        cases r2
        cases r1 with
        | lst h r =>
          cases r.ints
          refine .inl ⟨_, _, rfl, SqL.of (k.same _ _ h), Nat.succ_pos _, fun m hm hy => ?_⟩
          obtain ⟨a1, a2, a3⟩ := minI_spec l n
          have e : m = minI n l := by
            apply Int.le_antisymm
            · rcases a1 with a1 | a1
              · rw [a1]; exact hy n (by simp)
              · exact hy _ (List.mem_cons_of_mem _ a1)
            · rcases List.mem_cons.mp hm with rfl | hm
              · exact a2
              · exact a3 m hm
          rw [e]
          exact q _ _ _ (.refl k) (.int _)
    · cases h
  · cases h
    cases r with
    | cons r1 r2 =>
      cases r2 with
      | cons r2 r3 =>
        cases r3; cases r1; cases r2
        exact .inr ⟨_, _, rfl, q _ _ _ (.refl k) (.int _)⟩
  · cases h
theorem de_sum {es : List Expr} {f : Env B → R (List D)} {p : Pos} (K : c.K = X.K) (hc : X.calm = true) (hm : X.mg "sum" = none) (ha : DA X c (e :: es) f) (hg : Gl X "sum" := by rfl) (he : starEach (e :: es) X.env = (false, eval e X.env) :: starEach es X.env := by rfl) (hpl : (backTo pos (starEach es X.env)).any (·.1) = false := by rfl) :
    DE X c (.Call (.Name "sum" p) (e :: es) [] pos) (eA dSum f) := de_A (fun q => pe_callB (cr_sum hc) hg hm boot_sumB q (he := he) (hpl := hpl)) (K ▸ ok_sum) ha
theorem de_all {es : List Expr} {f : Env B → R (List D)} {p : Pos} (K : c.K = X.K) (hc : X.calm = true) (hm : X.mg "all" = none) (ha : DA X c (e :: es) f) (hg : Gl X "all" := by rfl) (he : starEach (e :: es) X.env = (false, eval e X.env) :: starEach es X.env := by rfl) (hpl : (backTo pos (starEach es X.env)).any (·.1) = false := by rfl) :
    DE X c (.Call (.Name "all" p) (e :: es) [] pos) (eA dAll f) := de_A (fun q => pe_callB (cr_all hc) hg hm boot_allB q (he := he) (hpl := hpl)) (K ▸ ok_all) ha
theorem de_max {es : List Expr} {f : Env B → R (List D)} {p : Pos} (K : c.K = X.K) (hc : X.calm = true) (hm : X.mg "max" = none) (ha : DA X c (e :: es) f) (hg : Gl X "max" := by rfl) (he : starEach (e :: es) X.env = (false, eval e X.env) :: starEach es X.env := by rfl) (hpl : (backTo pos (starEach es X.env)).any (·.1) = false := by rfl) :
    DE X c (.Call (.Name "max" p) (e :: es) [] pos) (eA dMax f) := de_A (fun q => pe_callB (cr_max hc) hg hm boot_maxB q (he := he) (hpl := hpl)) (K ▸ ok_max) ha
theorem de_min {es : List Expr} {f : Env B → R (List D)} {p : Pos} (K : c.K = X.K) (hc : X.calm = true) (hm : X.mg "min" = none) (ha : DA X c (e :: es) f) (hg : Gl X "min" := by rfl) (he : starEach (e :: es) X.env = (false, eval e X.env) :: starEach es X.env := by rfl) (hpl : (backTo pos (starEach es X.env)).any (·.1) = false := by rfl) :
    DE X c (.Call (.Name "min" p) (e :: es) [] pos) (eA dMin f) := de_A (fun q => pe_callB ((cr_min hc).or (call_min2 hc)) hg hm boot_minB q (he := he) (hpl := hpl)) (K ▸ ok_min) ha
/-- isinstance(x, T), T built in -/
def tyD : D → Option String
  | .none => some "NoneType"
  | .bool _ => some "bool"
  | .int _ => some "int"
  | .str _ => some "str"
  | .list _ => some "list"
  | .tuple _ => some "tuple"
  | .dict [] => some "dict"
  | .dict (_ :: _) => none
def dIsi (T : String) (x : D) : R D := match tyD x with
  | some t => match kitB t T with
    | some b => .ok (.bool b)
    | none => .stuck
  | none => .stuck
theorem Rep.tyX {K : PySem.W.Frag} {M H : Hp} (k : MOk M H) {v : V} {x : D} {t : String} (r : Rep K M v x) (e : tyD x = some t) : TyX K H v (.type t) := by
  cases r with
  | non => cases e; exact .base .non
  | bl b => cases e; exact .base (.bl b)
  | int b => cases e; exact .base (.int b)
  | str b => cases e; exact .base (.str b)
  | lst h _ => cases e; exact .base (.lst (k.same _ _ h))
  | scr h _ => cases e
  | dic h => cases e; exact .base (.dK (k.same _ _ h))
  | tup h _ =>
    cases e
    rcases h with (h | ⟨o, h⟩) | ⟨o, its, n, h, hc, _⟩
    · exact .base (.tup (k.same _ _ h))
    · exact .fTuple (k.same _ _ h)
    · exact .kTuple h hc
theorem ClsV_ty (n : String) : ClsV (.ty n) (.type n) := by constructor
theorem de_isi {T : String} {x : Str} {p p2 : Pos} (K : c.K = X.K) (hm : X.mg "isinstance" = none) (hmT : X.mg x = none) (hv : bootBuiltins x = some (.type T)) (ha : DE X c a f) (hg : Gl X "isinstance" := by rfl) (hgT : Gl X x := by rfl)
    (hn : x ≠ "__name__" := by decide) (hd : (x == ("__debug__" : Str)) = false := by decide) (hs : starEach [a, .Name x p2] X.env = (false, eval a X.env) :: starEach [.Name x p2] X.env := by rfl) (hs2 : starEach [.Name x p2] X.env = (false, eval (.Name x p2) X.env) :: starEach [] X.env := by rfl)
    (hpl : (backTo pos (starEach [.Name x p2] X.env)).any (·.1) = false := by rfl) :
    DE X c (.Call (.Name "isinstance" p) [a, .Name x p2] [] pos) (e1 (dIsi T) f) := by
  have hT : PE X (.Name x p2) (tC (.ty T)) := pe_bltn hgT hmT hv rfl hn hd
  refine ⟨PE.imp (pe_callB call_isi hg hm boot_isiB (pa_cons ha.pe (pa_cons hT pa_nil hs2) hs) (he := hs) (hpl := hpl)) fun σ H Q ⟨I, M, ρ, e, q⟩ => ?_⟩
  refine ⟨I, M, ρ, e, q.bind.mono fun x hx v H1 M1 k1 e1 r1 => ?_⟩
  obtain ⟨d, hd, hp⟩ := hx.noE
  unfold dIsi at hd
  split at hd
  · rename_i t ht
    split at hd
    · rename_i b hb
      cases hd
      exact ⟨_, _, _, _, b, rfl, ClsV_ty T, K ▸ r1.tyX e1.mok ht, kit_ty hb, hp _ H1 M1 k1 e1 (.bl _)⟩
    · cases hd
  · cases hd
end
end PL

set_option Elab.async false
set_option linter.all false
set_option maxRecDepth 100000
set_option maxHeartbeats 4000000
/-! targets, what is walked, comprehensions, fresh lists -/
namespace PL
open PySem PySem.Spec PyProof.Rows L2
section
variable {B : ObjB} {K : PySem.W.Frag} {I : Ent} {M H M' H' : Hp} {σ σ' : L2.St} {ρ ρ' : Env B}

/-! ### environments that change -/
theorem EnvR.set {i : Nat} {v : V} {d : D} (e : EnvR K I M H σ ρ) (r : Rep K M v d) : EnvR K I M H (σ.set i (some v)) (ρ.set i (.val d)) where
  len := by rw [List.length_set, List.length_set]; exact e.len
  ent := e.ent
  msub := e.msub
  mok := e.mok
  mnew := e.mnew
  slots := fun j s h => by
    by_cases hj : i = j
    · subst hj
      by_cases hl : i < ρ.length
      · rw [List.getElem?_set_self hl] at h
        cases h
        exact ⟨v, by rw [List.getElem?_set_self (by rw [e.len]; exact hl)], r⟩
      · rw [List.getElem?_eq_none (by rw [List.length_set]; omega)] at h; cases h
    · rw [List.getElem?_set_ne hj] at h ⊢
      exact e.slots j s h
  apart := fun j k ds es hne h1 h2 => by
    have nj : i ≠ j := fun z => by
      subst z
      by_cases hl : i < ρ.length
      · rw [List.getElem?_set_self hl] at h1; cases h1
      · rw [List.getElem?_eq_none (by rw [List.length_set]; omega)] at h1; cases h1
    have nk : i ≠ k := fun z => by
      subst z
      by_cases hl : i < ρ.length
      · rw [List.getElem?_set_self hl] at h2; cases h2
      · rw [List.getElem?_eq_none (by rw [List.length_set]; omega)] at h2; cases h2
    rw [List.getElem?_set_ne nj] at h1 ⊢
    rw [List.getElem?_set_ne nk] at h2 ⊢
    exact e.apart j k ds es hne h1 h2
theorem EnvR.setNo {i : Nat} {w : Option V} (e : EnvR K I M H σ ρ) : EnvR K I M H (σ.set i w) (ρ.set i .no) where
  len := by rw [List.length_set, List.length_set]; exact e.len
  ent := e.ent
  msub := e.msub
  mok := e.mok
  mnew := e.mnew
  slots := fun j s h => by
    by_cases hj : i = j
    · subst hj
      by_cases hl : i < ρ.length
      · rw [List.getElem?_set_self hl] at h
        cases h
        trivial
      · rw [List.getElem?_eq_none (by rw [List.length_set]; omega)] at h; cases h
    · rw [List.getElem?_set_ne hj] at h ⊢
      exact e.slots j s h
  apart := fun j k ds es hne h1 h2 => by
    have nj : i ≠ j := fun z => by
      subst z
      by_cases hl : i < ρ.length
      · rw [List.getElem?_set_self hl] at h1; cases h1
      · rw [List.getElem?_eq_none (by rw [List.length_set]; omega)] at h1; cases h1
    have nk : i ≠ k := fun z => by
      subst z
      by_cases hl : i < ρ.length
      · rw [List.getElem?_set_self hl] at h2; cases h2
      · rw [List.getElem?_eq_none (by rw [List.length_set]; omega)] at h2; cases h2
    rw [List.getElem?_set_ne nj] at h1 ⊢
    rw [List.getElem?_set_ne nk] at h2 ⊢
    exact e.apart j k ds es hne h1 h2
/-- a new list is the name's own -/
theorem EnvR.setOwn {i : Nat} {l : Addr} {vs : List V} {ds : List D} (e : EnvR K I M H σ ρ) (hl : H l = some (.lst vs)) (ml : M l = none) (il : I.H l = none) (r : Reps K M vs ds)
    (ne : ∀ (j : Nat) (es : List D), i ≠ j → ρ[j]? = some (.own es) → σ[j]? ≠ some (some (.ref l))) : EnvR K I M H (σ.set i (some (.ref l))) (ρ.set i (.own ds)) where
  len := by rw [List.length_set, List.length_set]; exact e.len
  ent := e.ent
  msub := e.msub
  mok := e.mok
  mnew := e.mnew
  slots := fun j s h => by
    by_cases hj : i = j
    · subst hj
      by_cases hl' : i < ρ.length
      · rw [List.getElem?_set_self hl'] at h
        cases h
        exact ⟨l, vs, by rw [List.getElem?_set_self (by rw [e.len]; exact hl')], hl, ml, il, r⟩
      · rw [List.getElem?_eq_none (by rw [List.length_set]; omega)] at h; cases h
    · rw [List.getElem?_set_ne hj] at h ⊢
      exact e.slots j s h
  apart := fun j k ds' es hne h1 h2 => by
    by_cases hj : i = j
    · subst hj
      by_cases hl' : i < ρ.length
      · rw [List.getElem?_set_ne hne] at h2 ⊢
        rw [List.getElem?_set_self (by rw [e.len]; exact hl')]
        exact fun z => ne k es hne h2 z.symm
      · rw [List.getElem?_eq_none (by rw [List.length_set]; omega)] at h1; cases h1
    · rw [List.getElem?_set_ne hj] at h1 ⊢
      by_cases hk : i = k
      · subst hk
        by_cases hl' : i < ρ.length
        · rw [List.getElem?_set_self (by rw [e.len]; exact hl')]
          exact ne j ds' hj h1
        · rw [List.getElem?_eq_none (by rw [List.length_set]; omega)] at h2; cases h2
      · rw [List.getElem?_set_ne hk] at h2 ⊢
        exact e.apart j k ds' es hne h1 h2
/-- a list that stands is taken among what stays -/
theorem EnvR.adopt {l : Addr} {o : HO} (e : EnvR K I M H σ ρ) (hl : H l = some o) (io : imm o = true) (ml : M l = none) (il : I.H l = none) (ne : ∀ (j : Nat) (es : List D), ρ[j]? = some (.own es) → σ[j]? ≠ some (some (.ref l))) :
    EnvR K I (upd M l o) H σ ρ where
  len := e.len
  ent := e.ent
  msub := e.msub.trans (upd_same_of ml)
  mok := fun a u h => by
    by_cases z : a = l
    · subst z; rw [upd_same] at h; cases h; exact ⟨hl, io⟩
    · rw [upd_ne z] at h; exact e.mok a u h
  mnew := fun a u h n => by
    by_cases z : a = l
    · subst z; exact il
    · rw [upd_ne z] at h; exact e.mnew a u h n
  slots := fun j s h => by
    have q := e.slots j s h
    have sm : Same M (upd M l o) := upd_same_of ml
    cases s with
    | no => trivial
    | val d => obtain ⟨v, a, r⟩ := q; exact ⟨v, a, r.same sm⟩
    | own ds =>
      obtain ⟨l', vs, a, h1, h2, h3, r⟩ := q
      have nl : l' ≠ l := fun z => by subst z; exact ne j ds h a
      exact ⟨l', vs, a, h1, by rw [upd_ne nl]; exact h2, h3, r.same sm⟩
    | obj z => obtain ⟨v, a, r⟩ := q; exact ⟨v, a, B.mono _ _ _ _ _ _ _ r sm fun _ _ x _ => x⟩
  apart := e.apart
/-- an own list is taken among what stays -/
theorem EnvR.freeze {i : Nat} {ds : List D} (e : EnvR K I M H σ ρ) (h : ρ[i]? = some (.own ds)) : ∃ l vs, σ[i]? = some (some (.ref l)) ∧ H l = some (.lst vs) ∧ M l = none ∧ I.H l = none ∧ Reps K M vs ds ∧ EnvR K I (upd M l (.lst vs)) H σ (ρ.set i (.val (.list ds))) := by
  obtain ⟨l, vs, a, hl, ml, il, r⟩ := e.slots i _ h
  refine ⟨l, vs, a, hl, ml, il, r, ?_⟩
  have e0 : EnvR K I M H (σ.set i (some (.ref l))) (ρ.set i .no) := e.setNo
  have eσ : σ.set i (some (.ref l)) = σ := by
    apply List.ext_getElem?
    intro j
    by_cases hj : i = j
    · subst hj
      have hi : i < σ.length := (List.getElem?_eq_some_iff.mp a).1
      rw [List.getElem?_set_self hi, a]
    · rw [List.getElem?_set_ne hj]
  rw [eσ] at e0
  have e1 := e0.adopt (l := l) (o := .lst vs) hl rfl ml il fun j es hj hs => by
    by_cases z : i = j
    · subst z
      by_cases hl' : i < ρ.length
      · rw [List.getElem?_set_self hl'] at hj; cases hj
      · rw [List.getElem?_eq_none (by rw [List.length_set]; omega)] at hj; cases hj
    · rw [List.getElem?_set_ne z] at hj
      exact e.apart i j ds es z h hj (a.trans hs.symm)
  have e2 := e1.set (i := i) (v := .ref l) (d := .list ds) (.lst upd_same (r.same (upd_same_of ml)))
  rw [eσ] at e2
  rw [List.set_set] at e2
  exact e2

/-! ### targets -/
def Off (is : List Nat) (σ σ' : L2.St) : Prop := σ'.length = σ.length ∧ ∀ j, j ∉ is → σ'[j]? = σ[j]?
theorem Off.refl {is : List Nat} : Off is σ σ := ⟨rfl, fun _ _ => rfl⟩
theorem Off.trans {is js : List Nat} {σ2 : L2.St} (a : Off is σ σ') (b : Off js σ' σ2) : Off (is ++ js) σ σ2 :=
  ⟨b.1.trans a.1, fun j hj => by rw [List.mem_append, not_or] at hj; exact (b.2 j hj.2).trans (a.2 j hj.1)⟩
def OffE (is : List Nat) (ρ ρ' : Env B) : Prop := ρ'.length = ρ.length ∧ ∀ j, j ∉ is → ρ'[j]? = ρ[j]?
theorem OffE.trans {is js : List Nat} {ρ2 : Env B} (a : OffE is ρ ρ') (b : OffE js ρ' ρ2) : OffE (is ++ js) ρ ρ2 :=
  ⟨b.1.trans a.1, fun j hj => by rw [List.mem_append, not_or] at hj; exact (b.2 j hj.2).trans (a.2 j hj.1)⟩
abbrev ETg (B : ObjB) := D → Env B → R (Env B)
def gD (K : PySem.W.Frag) (is : List Nat) (t : ETg B) : TG := fun v σ H Q => ∃ I M ρ d ρ', EnvR K I M H σ ρ ∧ Rep K M v d ∧ t d ρ = .ok ρ' ∧ ∀ σ', EnvR K I M H σ' ρ' → Off is σ σ' → Q σ' H
def gsD (K : PySem.W.Frag) (is : List Nat) (t : List D → Env B → R (Env B)) : TGs := fun vs σ H Q => ∃ I M ρ ds ρ', EnvR K I M H σ ρ ∧ Reps K M vs ds ∧ t ds ρ = .ok ρ' ∧ ∀ σ', EnvR K I M H σ' ρ' → Off is σ σ' → Q σ' H
structure DG (X : Cx) (tgt : Expr) (is : List Nat) (t : ETg B) : Prop where
  pg : PG X tgt (gD X.K is t)
  off : ∀ d ρ ρ', t d ρ = .ok ρ' → OffE is ρ ρ'
structure DGs (X : Cx) (ts : List Expr) (is : List Nat) (t : List D → Env B → R (Env B)) : Prop where
  pg : PGs X ts (gsD X.K is t)
  off : ∀ d ρ ρ', t d ρ = .ok ρ' → OffE is ρ ρ'
theorem PG.imp {X : Cx} {e : Expr} {t u : TG} (h : PG X e t) (k : ∀ v σ H Q, u v σ H Q → t v σ H Q) : PG X e u := ⟨fun pins s σ H v w Q I r q => h.run pins s σ H v w Q I r (k v σ H Q q)⟩
theorem PGs.imp {X : Cx} {e : List Expr} {t u : TGs} (h : PGs X e t) (k : ∀ v σ H Q, u v σ H Q → t v σ H Q) : PGs X e u := ⟨fun pins s σ H v w Q I r q => h.run pins s σ H v w Q I r (k v σ H Q q)⟩
variable {X : Cx} {pos : Pos}
def gN (i : Nat) : ETg B := fun d ρ => .ok (ρ.set i (.val d))
theorem dg_name {i : Nat} {x : Str} (hN : X.N.Nodup) (hi : X.N[i]? = some x) (hx : Loc X.env.scope x) (hf : X.fn x = true ∨ X.env.scope.names.lookup x = some .local := by first | exact .inl rfl | exact .inr rfl | assumption) : DG X (.Name x pos) [i] (gN (B := B) i) := by
  refine ⟨PG.imp (pg_name hN hi hx hf) fun v σ H Q ⟨I, M, ρ, d, ρ', e, r, h, q⟩ => ?_, fun d ρ ρ' h => ?_⟩
  · cases h
    exact q _ (e.set r) ⟨List.length_set, fun j hj => List.getElem?_set_ne (fun z => hj (by simp [z]))⟩
  · cases h
    exact ⟨List.length_set, fun j hj => List.getElem?_set_ne (fun z => hj (by simp [z]))⟩
def gsN : List D → Env B → R (Env B) := fun ds ρ => match ds with
  | [] => .ok ρ
  | _ :: _ => .stuck
def gsC (t : ETg B) (u : List D → Env B → R (Env B)) : List D → Env B → R (Env B) := fun ds ρ => match ds with
  | [] => .stuck
  | d :: r => (t d ρ).bind fun ρ1 => u r ρ1
theorem dgs_nil : DGs X [] [] (gsN (B := B)) := by
  refine ⟨PGs.imp pgs_nil fun v σ H Q ⟨I, M, ρ, ds, ρ', e, r, h, q⟩ => ?_, fun d ρ ρ' h => ?_⟩
  · cases r with
    | nil => cases h; exact ⟨rfl, q _ e .refl⟩
    | cons _ _ => cases h
  · cases d with
    | nil => cases h; exact ⟨rfl, fun _ _ => rfl⟩
    | cons _ _ => cases h
theorem R.bind_eq {α β : Type} {r : R α} {k : α → R β} {b : β} (h : r.bind k = .ok b) : ∃ a, r = .ok a ∧ k a = .ok b := by
  cases r with
  | ok a => exact ⟨a, rfl, h⟩
  | exc n => cases h
  | stuck => cases h
theorem dgs_cons {e : Expr} {es : List Expr} {is js : List Nat} {t : ETg B} {u : List D → Env B → R (Env B)} (h : DG X e is t) (h' : DGs X es js u)
    (hs : (assignEach (e :: es) X.env).map (·.2) = assign e X.env :: (assignEach es X.env).map (·.2) := by rfl) : DGs X (e :: es) (is ++ js) (gsC t u) := by
  refine ⟨PGs.imp (pgs_cons h.pg h'.pg hs) fun vs σ H Q ⟨I, M, ρ, ds, ρ', e, r, hh, q⟩ => ?_, fun d ρ ρ' hh => ?_⟩
  · cases r with
    | nil => cases hh
    | cons r1 r2 =>
      obtain ⟨ρ1, a1, a2⟩ := R.bind_eq hh
      exact ⟨_, _, rfl, I, M, ρ, _, ρ1, e, r1, a1, fun σ1 e1 o1 => ⟨I, M, ρ1, _, ρ', e1, r2, a2, fun σ2 e2 o2 => q σ2 e2 (o1.trans o2)⟩⟩
  · cases d with
    | nil => cases hh
    | cons d ds =>
      obtain ⟨ρ1, a1, a2⟩ := R.bind_eq hh
      exact (h.off _ _ _ a1).trans (h'.off _ _ _ a2)
def gT (n : Nat) (u : List D → Env B → R (Env B)) : ETg B := fun d ρ => match d with
  | .tuple ds => if ds.length = n then u ds ρ else .stuck
  | _ => .stuck
theorem dg_tup {es : List Expr} {j : Nat} {is : List Nat} {u : List D → Env B → R (Env B)} {n : Nat} (hc : X.calm = true) (h : DGs X es is u)
    (hn : (assignEach es X.env).length = n := by rfl) (hst : (assignEach es X.env).findIdx? (·.1) = none := by rfl) : DG X (.Tuple es j pos) is (gT n u) := by
  refine ⟨PG.imp (pg_tup hc h.pg hn hst) fun v σ H Q ⟨I, M, ρ, d, ρ', e, r, hh, q⟩ => ?_, fun d ρ ρ' hh => ?_⟩
  · unfold gT at hh
    split at hh
    · split at hh
      · rename_i hl
        cases r with
        | tup ht rr => exact ⟨_, _, rfl, sqT_same e.mok.same ht, by rw [rr.length]; exact hl, I, M, ρ, _, ρ', e, rr, hh, q⟩
      · cases hh
    · cases hh
  · unfold gT at hh
    split at hh
    · split at hh
      · exact h.off _ _ _ hh
      · cases hh
    · cases hh

/-! ### what is walked -/
structure WalkJ (K : PySem.W.Frag) (M1 : Hp) (J : It) (items : List D) : Prop where
  go : ∀ (i : Nat) H M d, MOk M H → Same M1 M → items[i]? = some d → J.go i H ∧ ∀ x H', J.yld i H x H' → ∃ M', Grow M H M' H' ∧ Rep K M' x d
  stop : ∀ H M, MOk M H → Same M1 M → J.stop items.length H
def iD (c : Ctx B) (fi : Env B → R (List D)) : TI := fun σ H Rr => ∃ I M ρ, EnvR c.K I M H σ ρ ∧ RD c I (fi ρ) fun items => ∀ J H1 M1, Step I.b M H M1 H1 → EnvR c.K I M1 H1 σ ρ → WalkJ c.K M1 J items → Rr J H1
structure DI (X : Cx) (c : Ctx B) (tg iter : Expr) (fi : Env B → R (List D)) : Prop where
  pi : PI X tg iter (iD c fi)
theorem PI.imp {tg iter : Expr} {t u : TI} (h : PI X tg iter t) (k : ∀ σ H Q, u σ H Q → t σ H Q) : PI X tg iter u := ⟨fun pins s σ H R I q => h.run pins s σ H R I (k σ H R q)⟩
variable {c : Ctx B} {tg e : Expr} {f : Env B → R D}
def iAny (K : PySem.W.Frag) (tl : TE) : TI := fun σ H R => tl σ H fun x H1 => ∃ a, x = .ref a ∧ ((∃ xs, SqL K H1 a xs ∧ R (Itl K a) H1) ∨ ∃ xs, SqT K H1 a xs ∧ R (Itt K a) H1)
theorem pi_any {l : Expr} {tl : TE} (hl : PE X l tl) : PI X tg l (iAny X.K tl) := by
  refine ⟨fun pins s σ H R I h => ?_⟩
  refine thn (hl.run pins s σ H _ I h) fun v s1 ⟨x, H1, I1, r1, q1⟩ => ?_
  obtain ⟨a, e, q⟩ := q1
  subst e
  cases r1
  rcases q with ⟨xs, hq, q⟩ | ⟨xs, hq, q⟩
  · obtain ⟨its, rv, p, hz⟩ := I1.list hq
    refine wpAny_pyIter_list p.isList ?_
    refine ⟨s1.heap.objs.size, [s1.heap.objs.size], _, _, H1, rfl, I1.kept (t' := s1.toks) fun b o e => Heap.get?_push_of_some _ e, turn_list a _, ⟨_, Heap.get?_push_size _ rfl, rfl, rfl⟩, fun b hb => ?_, q⟩
    have e : b = s1.heap.objs.size := by simpa using hb
    subst e
    exact I1.fpOk (Nat.le_refl _) (I1.hok.fresh (Nat.le_refl _))
  · obtain ⟨its, rv, p, hz⟩ := I1.tuple hq
    refine wpAny_pyIter_tuple (show s1.heap.IsTuple a its.toArray from p) ?_
    refine ⟨s1.heap.objs.size, [s1.heap.objs.size], _, _, H1, rfl, I1.kept (t' := s1.toks) fun b o e => Heap.get?_push_of_some _ e, turn_tuple a _, ⟨_, Heap.get?_push_size _ rfl, rfl, rfl⟩, fun b hb => ?_, q⟩
    have e : b = s1.heap.objs.size := by simpa using hb
    subst e
    exact I1.fpOk (Nat.le_refl _) (I1.hok.fresh (Nat.le_refl _))
theorem sqL_inj {K : PySem.W.Frag} {H : Hp} {a : Addr} {xs ys : List V} (h : H a = some (.lst xs)) (hn : K.lookup a = none) (q : SqL K H a ys) : ys = xs := by
  rcases q with (q | ⟨o, q⟩) | ⟨o, its, n, q, _⟩
  · rw [h] at q; cases q; rfl
  · rw [h] at q; cases q
  · rw [hn] at q; cases q
/-- a walk over what holds these items -/
theorem walk_seq {p : Addr} {vs : List V} {items : List D} {M1 : Hp} (hs : SqL K M1 p vs) (r : Reps K M1 vs items) : WalkJ K M1 (Itl K p) items where
  go := fun i H M d k s e => by
    obtain ⟨v, hv, rv⟩ := r.get e
    have hH := k.same.seq (s.seq hs)
    refine ⟨⟨vs, v, hH, hv⟩, fun x H' y => ?_⟩
    obtain ⟨e1, y⟩ := y
    subst e1
    have hx := y vs hH
    rw [hv] at hx
    cases hx
    exact ⟨M, .refl k, rv.same s⟩
  stop := fun H M k s => ⟨vs, k.same.seq (s.seq hs), by rw [r.length]; exact Nat.le_refl _⟩
theorem walk_tup {p : Addr} {vs : List V} {items : List D} {M1 : Hp} (hs : SqT K M1 p vs) (r : Reps K M1 vs items) : WalkJ K M1 (Itt K p) items where
  go := fun i H M d k s e => by
    obtain ⟨v, hv, rv⟩ := r.get e
    have hH := sqT_same k.same (sqT_same s hs)
    refine ⟨⟨vs, v, hH, hv⟩, fun x H' y => ?_⟩
    obtain ⟨e1, y⟩ := y
    subst e1
    have hx := y vs hH
    rw [hv] at hx
    cases hx
    exact ⟨M, .refl k, rv.same s⟩
  stop := fun H M k s => ⟨vs, sqT_same k.same (sqT_same s hs), by rw [r.length]; exact Nat.le_refl _⟩
theorem Rep.itemsM {M : Hp} {v : V} {x : D} {xs : List D} (r : Rep K M v x) (e : itemsOf x = some xs) : ∃ p vs, v = .ref p ∧ (SqL K M p vs ∨ SqT K M p vs) ∧ Reps K M vs xs := by
  unfold itemsOf at e
  split at e
  · cases e
    cases r with
    | lst h q => exact ⟨_, _, rfl, .inl (SqL.of h), q⟩
  · cases e
    cases r with
    | tup h q => exact ⟨_, _, rfl, .inr h, q⟩
  · cases e
    cases r with
    | scr h q => exact ⟨_, _, rfl, .inl h, q⟩
  · cases e
def toItems (x : D) : R (List D) := match itemsOf x with
  | some xs => .ok xs
  | none => .stuck
theorem toItems_rd {I : Ent} {x : D} {P : List D → Prop} (h : RD c I (toItems x) P) : ∃ xs, itemsOf x = some xs ∧ P xs := by
  unfold toItems at h
  split at h
  · exact ⟨_, by assumption, h⟩
  · exact h.elim
def iSeq (f : Env B → R D) : Env B → R (List D) := fun ρ => (f ρ).bind toItems
theorem di_seq (K : c.K = X.K) (h : DE X c e f) : DI X c tg e (iSeq f) := by
  refine ⟨PI.imp (pi_any h.pe) fun σ H Q ⟨I, M, ρ, e, q⟩ => ?_⟩
  refine ⟨I, M, ρ, e, q.bind.mono fun x hx v H1 M1 k1 e1 r1 => ?_⟩
  obtain ⟨xs, hxs, hp⟩ := toItems_rd hx
  obtain ⟨p, vs, rfl, hs, r⟩ := r1.itemsM hxs
  rw [← K]
  rcases hs with hs | hs
  · exact ⟨p, rfl, .inl ⟨vs, e1.mok.same.seq hs, hp _ _ _ k1 e1 (walk_seq hs r)⟩⟩
  · exact ⟨p, rfl, .inr ⟨vs, sqT_same e1.mok.same hs, hp _ _ _ k1 e1 (walk_tup hs r)⟩⟩
/-- range(n), range(a, b) -/
def rangeD (a b : Int) : List D := (List.range (b - a).toNat).map fun i : Nat => PyData.int (a + i)
def iRng1 (f : Env B → R (List D)) : Env B → R (List D) := fun ρ => (f ρ).bind fun xs => match xs with
  | [.int j] => if -100000 ≤ j ∧ j ≤ 100000 then .ok (rangeD 0 j) else .stuck
  | _ => .stuck
def iRng2 (f : Env B → R (List D)) : Env B → R (List D) := fun ρ => (f ρ).bind fun xs => match xs with
  | [.int i, .int j] => if -100000 ≤ i ∧ i ≤ 100000 ∧ -100000 ≤ j ∧ j ≤ 100000 then .ok (rangeD i j) else .stuck
  | _ => .stuck
theorem walk_range {a b : Int} {M1 : Hp} : WalkJ K M1 (Itr a (b - a).toNat) (rangeD a b) where
  go := fun i H M d k s e => by
    unfold rangeD at e
    rw [List.getElem?_map] at e
    have hi : i < (b - a).toNat := by
      by_cases h : i < (b - a).toNat
      · exact h
      · rw [List.getElem?_eq_none (by simpa using h)] at e; cases e
    rw [List.getElem?_range hi] at e
    cases e
    refine ⟨hi, fun x H' y => ?_⟩
    obtain ⟨e1, e2⟩ := y
    subst e1; subst e2
    exact ⟨M, .refl k, .int _⟩
  stop := fun H M k s => by
    show (b - a).toNat ≤ (rangeD a b).length
    unfold rangeD
    simp
theorem di_range1 {a : Expr} {fa : Env B → R (List D)} {p : Pos} (hm : X.mg "range" = none) (ha : DA X c [a] fa) (hg : Gl X "range" := by rfl) (hs : starEach [a] X.env = [(false, eval a X.env)] := by rfl) : DI X c tg (.Call (.Name "range" p) [a] [] pos) (iRng1 fa) := by
  refine ⟨PI.imp (pi_range1 hg hm ha.pa hs) fun σ H Q ⟨I, M, ρ, e, q⟩ => ?_⟩
  refine ⟨I, M, ρ, e, RD.mono q.bind fun x hx v H1 M1 k1 e1 r1 => ?_⟩
  split at hx
  · rename_i j
    split at hx
    · rename_i hb
      cases r1 with
      | cons r1 r2 =>
        cases r2; cases r1
        refine ⟨j, rfl, by omega, by omega, ?_⟩
        have w := walk_range (K := c.K) (a := 0) (b := j) (M1 := M1)
        rw [Int.sub_zero] at w
        exact hx _ _ _ k1 e1 w
    · exact hx.elim
  · exact hx.elim
theorem di_range2 {a b : Expr} {fa : Env B → R (List D)} {p : Pos} (hm : X.mg "range" = none) (ha : DA X c [a, b] fa) (hg : Gl X "range" := by rfl) (hs : starEach [a, b] X.env = [(false, eval a X.env), (false, eval b X.env)] := by rfl) (hs2 : starEach [b] X.env = [(false, eval b X.env)] := by rfl) :
    DI X c tg (.Call (.Name "range" p) [a, b] [] pos) (iRng2 fa) := by
  refine ⟨PI.imp (pi_range2 hg hm ha.pa hs hs2) fun σ H Q ⟨I, M, ρ, e, q⟩ => ?_⟩
  refine ⟨I, M, ρ, e, RD.mono q.bind fun x hx v H1 M1 k1 e1 r1 => ?_⟩
  split at hx
  · rename_i i j
    split at hx
    · rename_i hb
      cases r1 with
      | cons r1 r2 =>
        cases r2 with
        | cons r2 r3 =>
          cases r3; cases r1; cases r2
          exact ⟨i, j, rfl, ⟨by omega, by omega, by omega, by omega⟩, hx _ _ _ k1 e1 walk_range⟩
    · exact hx.elim
  · exact hx.elim
end
end PL

set_option Elab.async false
set_option linter.all false
set_option maxRecDepth 100000
set_option maxHeartbeats 4000000
/-! zip, enumerate, reversed, over lists and tuples in any mix -/
namespace PL
open PySem PySem.Spec PyProof.Rows L2
/-! ### a list or a tuple -/
def SqA (K : PySem.W.Frag) (t : Bool) (H : Hp) (a : Addr) (xs : List V) : Prop := match t with
  | false => SqL K H a xs
  | true => SqT K H a xs
def ItA (t : Bool) (h : Heap) (it a : Addr) (i : Nat) : Prop := match t with
  | false => h.IsListIter it a i
  | true => h.IsTupleIter it a i
def IsA (t : Bool) (h : Heap) (a : Addr) (items : Array Value) : Prop := match t with
  | false => h.IsList a items
  | true => h.IsTuple a items
theorem draws_sel {prog : Program} {w : World} {A : Around} (t : Bool) (hh : A.handled = none) (it a : Addr) (hne : a ≠ it) (items : Array Value) :
    Draws prog w A it [it, a] items.size (fun i v => items[i]? = some v) (fun i h => ItA t h it a i ∧ IsA t h a items) := by
  cases t
  · exact Draws.list hh it a hne items
  · exact Draws.tuple hh it a hne items
theorem ItA.obj {t : Bool} {h : Heap} {it a : Addr} {i : Nat} (x : ItA t h it a i) : ∃ o, h.get? it = some o ∧ ∀ v, o.data ≠ .cell v := by
  cases t
  · obtain ⟨o, e, _, d⟩ := x
    exact ⟨o, e, fun v q => by rw [d] at q; cases q⟩
  · obtain ⟨o, e, _, d⟩ := x
    exact ⟨o, e, fun v q => by rw [d] at q; cases q⟩
theorem ItA.at {t : Bool} {h h' : Heap} {it a : Addr} {i : Nat} (x : ItA t h it a i) (k : ∀ o, h.get? it = some o → h'.get? it = some o) : ItA t h' it a i := by
  cases t
  · exact Heap.IsListIter.at x k
  · obtain ⟨o, e, r⟩ := x
    exact ⟨o, k o e, r⟩
section
variable {X : Cx} {pins : List (Addr × Obj)} {σ : L2.St} {H : Hp} {s : Shared} {a : Addr} {xs ys : List V} {t : Bool}
theorem inv_sq (I : Inv X pins σ H s) (h : SqA X.K t H a xs) : ∃ its : List Value, Vals xs its ∧ IsA t s.heap a its.toArray ∧ xs.length ≤ sizeLine ∧ a < s.heap.objs.size := by
  cases t
  · obtain ⟨its, r, p, z⟩ := I.list h
    exact ⟨its, r, p.isList, z, p.lt⟩
  · obtain ⟨its, r, p, z⟩ := I.tuple h
    exact ⟨its, r, p, z, p.lt⟩
theorem inv_inj (I : Inv X pins σ H s) (h : SqA X.K t H a xs) (h' : SqA X.K t H a ys) : xs = ys := by
  cases t
  · exact I.list_inj h h'
  · exact I.tuple_inj h h'
end
/-! ### zip -/
def ItzA (K : PySem.W.Frag) (t1 t2 : Bool) (a b : Addr) : It :=
  ⟨fun i H => ∃ (xs ys : List V) (x y : V), SqA K t1 H a xs ∧ SqA K t2 H b ys ∧ xs[i]? = some x ∧ ys[i]? = some y,
    fun i H v H' => ∃ T x y, v = .ref T ∧ H T = none ∧ H' = upd H T (.tup [x, y]) ∧ (∀ xs, SqA K t1 H a xs → xs[i]? = some x) ∧ ∀ ys, SqA K t2 H b ys → ys[i]? = some y,
    fun i H => ∃ xs ys : List V, SqA K t1 H a xs ∧ SqA K t2 H b ys ∧ i ≤ xs.length ∧ i ≤ ys.length ∧ (i = xs.length ∨ i = ys.length)⟩
theorem turn_zipA {P : Program} {w : World} {K : PySem.W.Frag} {elts : List Expr} {kk : Nat} {tpos : Pos} {a b z TI TO i1 i2 : Addr} (t1 t2 : Bool) (D : ZipSep2 z TI TO i1 i2 [i1, a] [i2, b]) (na : a ≠ i1) (nb : b ≠ i2) :
    Turn P w K (.Tuple elts kk tpos) (ItzA K t1 t2 a b) [z, TI, TO, i1, i2] z (fun i h => IsZip h z TI TO .none ∧ IsTupOf2 h TI (.ref i1) (.ref i2) ∧ (∃ x y, IsTupOf2 h TO x y) ∧ ItA t1 h i1 a i ∧ ItA t2 h i2 b i) where
  mem := by simp
  obj := fun i h st c hc => by
    obtain ⟨hz, hTI, ⟨x, y, hTO⟩, h1, h2⟩ := st
    have e' : c = z ∨ c = TI ∨ c = TO ∨ c = i1 ∨ c = i2 := by simpa using hc
    rcases e' with q | q | q | q | q
    · rw [q]; exact ⟨_, hz, fun v q => nomatch q⟩
    · rw [q]; exact ⟨_, hTI, fun v q => nomatch q⟩
    · rw [q]; exact ⟨_, hTO, fun v q => nomatch q⟩
    · rw [q]; exact h1.obj
    · rw [q]; exact h2.obj
  keep := fun i h h' st k => by
    obtain ⟨hz, hTI, ⟨x, y, hTO⟩, h1, h2⟩ := st
    exact ⟨k z (by simp) _ hz, k TI (by simp) _ hTI, ⟨x, y, k TO (by simp) _ hTO⟩, h1.at fun o q => k i1 (by simp) o q, h2.at fun o q => k i2 (by simp) o q⟩
  item := by
    intro X hP hw hK hc i pins s σ H E I hf st hg
    subst hP hw hK
    obtain ⟨hz, hTI, ⟨x0, y0, hTO⟩, h1, h2⟩ := st
    obtain ⟨xs, ys, x, y, hqx, hqy, hx, hy⟩ := hg
    obtain ⟨its, rv, p, _, la⟩ := inv_sq I hqx
    obtain ⟨its2, rv2, p2, _, lb⟩ := inv_sq I hqy
    obtain ⟨u, hu, ru⟩ := rv.get hx
    obtain ⟨u2, hu2, ru2⟩ := rv2.get hy
    have hzl : z < s.heap.objs.size := Heap.lt_size hz
    have lx : i < its.length := (List.getElem?_eq_some_iff.mp hu).1
    have ly : i < its2.length := (List.getElem?_eq_some_iff.mp hu2).1
    have hh : X.A.in1.handled = none := I.ok.hd hc
    refine wpAny_pyNext_zipD2_item D (draws_sel t1 hh i1 a na its.toArray) (draws_sel t2 hh i2 b nb its2.toArray) hz hTI hTO ⟨h1, p⟩ ⟨h2, p2⟩ (by simpa using lx) (by simpa using ly) fun x1 x2 h' tk e1 e2 z' TO' h1' h2' hT hsz hk => ?_
    have ex1 : x1 = u := by
      have q : its.toArray[i]? = some u := by simpa using hu
      rw [q] at e1
      exact (Option.some.inj e1).symm
    have ex2 : x2 = u2 := by
      have q : its2.toArray[i]? = some u2 := by simpa using hu2
      rw [q] at e2
      exact (Option.some.inj e2).symm
    subst ex1 ex2
    refine ⟨_, rfl, wpAny_letOwnedTupleGo_zip (s := { s with heap := h', toks := tk }) z' fun h'' z'' sb => ?_⟩
    have hT2 : h''.get? s.heap.objs.size = some { cls := .type "tuple", data := .seq #[x1, x2] } := (sb.2 _ (Nat.ne_of_gt hzl)).trans hT
    have new : ObjOk X.prog X.w (upd H s.heap.objs.size (.tup [x, y])) h'' s.heap.objs.size (.tup [x, y]) :=
      ⟨by show 2 ≤ sizeLine; decide, [x1, x2], .cons ru (.cons ru2 .nil), ⟨_, hT2, rfl, _, rfl⟩⟩
    have I1 : Inv X pins σ (upd H s.heap.objs.size (.tup [x, y])) { s with heap := h'', toks := tk } :=
      I.turnedNew (t' := tk) (ch := [z, TI, TO, i1, i2]) (fun c o hb q => (sb.2 c (fun q' => hb (by simp [q']))).trans (hk c o (fun q' => hb (by simp [q'])) (fun q' => hb (by simp [q'])) (fun q' => hb (by simp [q'])) (fun q' => hb (by simp [q'])) q)) hf (Nat.le_refl _) new
    refine ⟨.ref s.heap.objs.size, _, I1, rfl, ⟨_, x, y, rfl, I.hok.fresh (Nat.le_refl _), rfl, fun l hl => by rw [inv_inj I hl hqx]; exact hx, fun l hl => by rw [inv_inj I hl hqy]; exact hy⟩, ⟨z'', ?_, ⟨x1, x2, ?_⟩, ?_, ?_⟩, fun c hcm => ?_⟩
    · exact (sb.2 _ D.TIz).trans (hk _ _ D.TIz D.TITO D.TIi1 D.TIi2 hTI)
    · exact (sb.2 _ D.TOz).trans TO'
    · exact h1'.1.at fun o q => (sb.2 _ (Ne.symm D.zi1)).trans q
    · exact h2'.1.at fun o q => (sb.2 _ (Ne.symm D.zi2)).trans q
    · have hlt : c < s.heap.objs.size := by
        have e' : c = z ∨ c = TI ∨ c = TO ∨ c = i1 ∨ c = i2 := by simpa using hcm
        rcases e' with q | q | q | q | q
        · rw [q]; exact hzl
        · rw [q]; exact Heap.lt_size hTI
        · rw [q]; exact Heap.lt_size hTO
        · rw [q]; obtain ⟨_, e1, _⟩ := h1.obj; exact Heap.lt_size e1
        · rw [q]; obtain ⟨_, e2, _⟩ := h2.obj; exact Heap.lt_size e2
      rw [upd_ne (Nat.ne_of_lt hlt)]
      exact (hf c hcm).1
  done := by
    intro X hP hw hK hc i pins s σ H E I hf st hg
    subst hP hw hK
    obtain ⟨hz, hTI, ⟨x0, y0, hTO⟩, h1, h2⟩ := st
    obtain ⟨xs, ys, hqx, hqy, lx, ly, hend⟩ := hg
    obtain ⟨its, rv, p, _, la⟩ := inv_sq I hqx
    obtain ⟨its2, rv2, p2, _, lb⟩ := inv_sq I hqy
    have l1 := rv.length
    have l2 := rv2.length
    have hh : X.A.in1.handled = none := I.ok.hd hc
    refine wpAny_pyNext_zipD2_end D (draws_sel t1 hh i1 a na its.toArray) (draws_sel t2 hh i2 b nb its2.toArray) hz hTI hTO ⟨h1, p⟩ ⟨h2, p2⟩ (by simp; omega) (by simp; omega) (by simp; omega) fun h' tk hk => ?_
    exact ⟨rfl, I.turnedL (t' := tk) (ch := [z, TI, TO, i1, i2]) (fun c o hb q =>
      hk c o (fun q' => hb (by simp [q'])) (fun q' => hb (by simp [q'])) (fun q' => hb (by simp [q'])) (fun q' => hb (by simp [q'])) q) hf⟩
  self := fun A i s Q E st h => wpAny_pyIter_zip st.1 h
def beginsO (t : Bool) (a : Addr) : Obj := match t with
  | false => { cls := .type "list_iterator", data := .fields #[.ref a, .int 0 0] }
  | true => { cls := .type "tuple_iterator", data := .fields #[.ref a, .int 0 0] }
theorem begins_sel (t : Bool) (a : Addr) (items : Array Value) : Begins (.ref a) (beginsO t a) fun h => IsA t h a items := by
  cases t
  · exact begins_list a items
  · exact begins_tuple a items
theorem ItA.begin {t : Bool} {h : Heap} {it a : Addr} (e : h.get? it = some (beginsO t a)) : ItA t h it a 0 := by
  cases t
  · exact ⟨_, e, rfl, rfl⟩
  · exact ⟨_, e, rfl, rfl⟩
def iZipX (K : PySem.W.Frag) (ta : TA) : TI := fun σ H R => ta σ H fun vs H1 => ∃ t1 t2 a b xs ys, vs = [.ref a, .ref b] ∧ SqA K t1 H1 a xs ∧ SqA K t2 H1 b ys ∧ R (ItzA K t1 t2 a b) H1
theorem pi_zipX {X : Cx} {e e2 : Expr} {ta : TA} {p pos tpos : Pos} {elts : List Expr} {kk : Nat} (hg : Gl X "zip") (hm : X.mg "zip" = none) (ha : PA X [e, e2] ta)
    (hs : starEach [e, e2] X.env = (false, eval e X.env) :: starEach [e2] X.env := by rfl) (hpl : (backTo pos (starEach [e2] X.env)).any (·.1) = false := by rfl) :
    PI X (.Tuple elts kk tpos) (.Call (.Name "zip" p) [e, e2] [] pos) (iZipX X.K ta) := by
  refine ⟨fun pins s σ H R I h => ?_⟩
  refine Call_ (ld_blt I hg hm PyProof.Rows.boot_zip (PyProof.Rows.callWith_type1 (thn (ha.run pos pins s σ H _ I h) fun us s1 ⟨vs, H1, I1, r1, q1⟩ => ?_) hs hpl))
  obtain ⟨t1, t2, a, b, xs, ys, ex, hqx, hqy, q⟩ := q1
  subst ex
  cases r1 with
  | cons r rr =>
    cases rr with
    | cons r' rr =>
      cases rr
      cases r
      cases r'
      obtain ⟨its, rv, p1, _, la⟩ := inv_sq I1 hqx
      obtain ⟨its2, rv2, p2, _, lb⟩ := inv_sq I1 hqy
      refine zip_begins2 (begins_sel t1 a its.toArray) (begins_sel t2 b its2.toArray) p1 p2 fun h' hz hTI hTO h1 h2 hsz hk => wpAny_pyIter_zip hz ?_
      have I2 : Inv X pins σ H1 { s1 with heap := h' } := I1.kept (t' := s1.toks) hk
      have S := zip_sep2 (N := s1.heap.objs.size) (fp1 := [a]) (fp2 := [b]) (by simpa using la) (by simpa using lb)
      refine ⟨s1.heap.objs.size + 4, [s1.heap.objs.size + 4, s1.heap.objs.size + 2, s1.heap.objs.size + 3, s1.heap.objs.size, s1.heap.objs.size + 1], _, _, H1, rfl, I2, turn_zipA t1 t2 S (Nat.ne_of_lt la) (Nat.ne_of_lt (Nat.lt_succ_of_lt lb)), ⟨hz, hTI, ⟨_, _, hTO⟩, .begin h1, .begin h2⟩, fun c hcm => ?_, q⟩
      have e' : c = s1.heap.objs.size + 4 ∨ c = s1.heap.objs.size + 2 ∨ c = s1.heap.objs.size + 3 ∨ c = s1.heap.objs.size ∨ c = s1.heap.objs.size + 1 := by simpa using hcm
      have hle : s1.heap.objs.size ≤ c := by
        rcases e' with z | z | z | z | z
        · rw [z]; exact Nat.le_add_right _ _
        · rw [z]; exact Nat.le_add_right _ _
        · rw [z]; exact Nat.le_add_right _ _
        · rw [z]; exact Nat.le_refl _
        · rw [z]; exact Nat.le_add_right _ _
      exact I1.fpOk hle (I1.hok.fresh hle)
/-! ### enumerate -/
open AutoSeq1 (wpAny_loadPart') in
theorem meets_enumerate_newT (l : Addr) (items : Array Value) (o : Obj) :
    Meets (Builtin.«enumerate.__new__» ⟨[.type "enumerate", .ref l], []⟩) (fun _ R s => (s.heap.get? l = some o ∧ s.heap.IsTuple l items) ∧
      R (.ok (.ret (.ref (s.heap.push { cls := .type "tuple_iterator", data := .fields #[.ref l, .int 0 0] }).objs.size)))
        { s with heap := (s.heap.push { cls := .type "tuple_iterator", data := .fields #[.ref l, .int 0 0] }).push { cls := .type "enumerate", data := .fields #[.none, .bool false, .ref s.heap.objs.size, rawInt 0, .none, .none] } }) :=
  .of_wp fun prog w A R s h => by
    obtain ⟨hp, g, d, tk, os⟩ := s; obtain ⟨⟨hl, hL⟩, h⟩ := h
    have hsub := sub_enumerate
    wp_walk using wpAny_loadPart' hl
    refine wpAny_stack_any fun st => wpAny_pure ?_
    split
    · rename_i c _ _ _ _ _
      cases (c == Value.type "enumerate")
      · wp_walk using wpAny_loadPart' hl, wpAny_pyIter_tuple hL
        exact ⟨_, rfl, h⟩
      · wp_walk using wpAny_loadPart' hl, wpAny_pyIter_tuple hL
        exact ⟨_, rfl, h⟩
    · wp_walk using wpAny_loadPart' hl, wpAny_pyIter_tuple hL
      exact ⟨_, rfl, h⟩
theorem call_enumerate_tuple {prog : Program} {w : World} {A : Around} {E : Value → Shared → Prop} {s : Shared} {l : Addr} {items : Array Value} {Q : Value → Shared → Prop} (hL : s.heap.IsTuple l items)
    (h : ∀ h', IsEnum h' (s.heap.objs.size + 1) s.heap.objs.size 0 .none → h'.IsTupleIter s.heap.objs.size l 0 → h'.objs.size = s.heap.objs.size + 2 →
      (∀ b o, s.heap.get? b = some o → h'.get? b = some o) → Q (.ref (s.heap.objs.size + 1)) { s with heap := h' }) :
    wpAny (model prog w) A (call (.type "enumerate") [.ref l]) Q E s := by
  obtain ⟨o, hl, hr⟩ := id hL
  refine callType_new F.called_enumerate (by decide) (F.typeCall_enumerate_1 _) (F.newCall_enumerate_1 _) (fun obj => F.args_object_init_2 obj _) F.entry_enumerate_new
    (meets_enumerate_newT l items o) ⟨⟨hl, hL⟩, ?_⟩
  have hz : (s.heap.push { cls := .type "tuple_iterator", data := .fields #[.ref l, .int 0 0] }).objs.size = s.heap.objs.size + 1 := Heap.size_push ..
  show _ ∧ _
  rw [hz]
  have he : IsEnum ((s.heap.push { cls := .type "tuple_iterator", data := .fields #[.ref l, .int 0 0] }).push
      { cls := .type "enumerate", data := .fields #[.none, .bool false, .ref s.heap.objs.size, rawInt 0, .none, .none] }) (s.heap.objs.size + 1) s.heap.objs.size 0 .none := by
    have := Heap.get?_push_size (s.heap.push { cls := .type "tuple_iterator", data := .fields #[.ref l, .int 0 0] })
      (o := { cls := .type "enumerate", data := .fields #[.none, .bool false, .ref s.heap.objs.size, rawInt 0, .none, .none] }) rfl
    rw [hz] at this; exact this
  refine ⟨⟨_, he, rfl⟩, h _ he ⟨_, Heap.get?_push_of_some _ (Heap.get?_push_size _ rfl), rfl, rfl⟩ (by rw [Heap.size_push, hz]) fun b o x => Heap.get?_push_of_some _ (Heap.get?_push_of_some _ x)⟩
def IteA (K : PySem.W.Frag) (t : Bool) (a : Addr) : It :=
  ⟨fun i H => ∃ (xs : List V) (x : V), SqA K t H a xs ∧ xs[i]? = some x, fun i H v H' => ∃ T x, v = .ref T ∧ H T = none ∧ H' = upd H T (.tup [.int (i : Nat), x]) ∧ ∀ xs, SqA K t H a xs → xs[i]? = some x, fun i H => ∃ xs : List V, SqA K t H a xs ∧ xs.length = i⟩
theorem turn_enumA {P : Program} {w : World} {K : PySem.W.Frag} {elts : List Expr} {kk : Nat} {tpos : Pos} (t : Bool) (a e it : Addr) (na : a ≠ it) (nea : e ≠ a) :
    Turn P w K (.Tuple elts kk tpos) (IteA K t a) [e, it] e (fun i h => (∃ old, IsEnum h e it ((i : Nat) : Int) old) ∧ ItA t h it a i ∧ e ≠ it) where
  mem := by simp
  obj := fun i h st b hb => by
    obtain ⟨⟨old, he⟩, hi, _⟩ := st
    have e' : b = e ∨ b = it := by simpa using hb
    rcases e' with z | z
    · rw [z]; exact ⟨_, he, fun v q => nomatch q⟩
    · rw [z]; exact hi.obj
  keep := fun i h h' st k => let ⟨⟨old, he⟩, hi, hne⟩ := st; ⟨⟨old, k e (by simp) _ he⟩, hi.at fun o q => k it (by simp) o q, hne⟩
  item := by
    intro X hP hw hK hc i pins s σ H E I hf st hg
    subst hP hw hK
    obtain ⟨⟨old, he⟩, hit, hne⟩ := st
    obtain ⟨xs, x, hq, hx⟩ := hg
    obtain ⟨its, rv, p, hz, la⟩ := inv_sq I hq
    obtain ⟨u, hu, ru⟩ := rv.get hx
    have hel : e < s.heap.objs.size := Heap.lt_size he
    have hil : it < s.heap.objs.size := by obtain ⟨_, q, _⟩ := hit.obj; exact Heap.lt_size q
    have lx : i < its.length := (List.getElem?_eq_some_iff.mp hu).1
    have hh : X.A.in1.handled = none := I.ok.hd hc
    refine wpAny_pyNext_enum_itemD (draws_sel t hh it a na its.toArray) he ⟨hit, p⟩ (by simpa using lx) hne (by simp [hne, nea]) fun x1 h' tk e1 ho hit' hT hsz hk => ?_
    have ex1 : x1 = u := by
      have q : its.toArray[i]? = some u := by simpa using hu
      rw [q] at e1
      exact (Option.some.inj e1).symm
    subst ex1
    refine ⟨_, rfl, wpAny_letOwnedTupleGo_enum (s := { s with heap := h', toks := tk + 1 }) ho fun h'' he' sb => ?_⟩
    have hT2 : h''.get? s.heap.objs.size = some { cls := .type "tuple", data := .seq #[.int i tk, x1] } := (sb.2 _ (Nat.ne_of_gt hel)).trans hT
    have new : ObjOk X.prog X.w (upd H s.heap.objs.size (.tup [.int (i : Nat), x])) h'' s.heap.objs.size (.tup [.int (i : Nat), x]) :=
      ⟨by show 2 ≤ sizeLine; decide, [.int i tk, x1], .cons ⟨_, rfl⟩ (.cons ru .nil), ⟨_, hT2, rfl, _, rfl⟩⟩
    have I1 : Inv X pins σ (upd H s.heap.objs.size (.tup [.int (i : Nat), x])) { s with heap := h'', toks := tk + 1 } :=
      I.turnedNew (t' := tk + 1) (ch := [e, it]) (fun b ob hb q => (sb.2 b (fun z => hb (by simp [z]))).trans (hk b ob (fun z => hb (by simp [z])) (fun z => hb (by simp [z])) q)) hf (Nat.le_refl _) new
    refine ⟨.ref s.heap.objs.size, _, I1, rfl, ⟨_, x, rfl, I.hok.fresh (Nat.le_refl _), rfl, fun ys hy => by rw [inv_inj I hy hq]; exact hx⟩, ⟨⟨x1, ?_⟩, hit'.1.at fun o q => (sb.2 it (Ne.symm hne)).trans q, hne⟩, fun b hb => ?_⟩
    · have e1 : ((i + 1 : Nat) : Int) = (i : Int) + 1 := by omega
      rw [e1]; exact he'
    · have hb' : b < s.heap.objs.size := by
        have e' : b = e ∨ b = it := by simpa using hb
        rcases e' with z | z
        · rw [z]; exact hel
        · rw [z]; exact hil
      rw [upd_ne (Nat.ne_of_lt hb')]
      exact (hf b hb).1
  done := by
    intro X hP hw hK hc i pins s σ H E I hf st hg
    subst hP hw hK
    obtain ⟨⟨old, he⟩, hit, hne⟩ := st
    obtain ⟨xs, hq, hx⟩ := hg
    obtain ⟨its, rv, p, hz, la⟩ := inv_sq I hq
    obtain ⟨f0, f1, f2, f3, f4, f5⟩ := hf it (by simp)
    have hl := rv.length
    have hh : X.A.in1.handled = none := I.ok.hd hc
    have en : its.toArray.size = i := by simp; omega
    refine wpAny_pyNext_enum_endD (draws_sel t hh it a na its.toArray) he ⟨by rw [en]; exact hit, p⟩ fun h' eb => ?_
    exact ⟨rfl, I.turned (t' := s.toks) (fun b o hb q => eb b o hb q) f0 f1 f3 f4 f5⟩
  self := fun A i s Q E st h => let ⟨⟨_, he⟩, _⟩ := st; wpAny_pyIter_enum he h
def iEnumA (K : PySem.W.Frag) (ta : TA) : TI := fun σ H R => ta σ H fun vs H1 => ∃ t a xs, vs = [.ref a] ∧ SqA K t H1 a xs ∧ R (IteA K t a) H1
theorem pi_enumA {X : Cx} {e : Expr} {ta : TA} {p pos tpos : Pos} {elts : List Expr} {kk : Nat} (hg : Gl X "enumerate") (hm : X.mg "enumerate" = none) (ha : PA X [e] ta) (hs : starEach [e] X.env = [(false, eval e X.env)] := by rfl) :
    PI X (.Tuple elts kk tpos) (.Call (.Name "enumerate" p) [e] [] pos) (iEnumA X.K ta) := by
  refine ⟨fun pins s σ H R I h => ?_⟩
  refine Call_ (ld_blt I hg hm boot_enumerate (PyProof.Rows.callWith_type1 (thn (ha.run pos pins s σ H _ I h) fun us s1 ⟨vs, H1, I1, r1, q1⟩ => ?_) hs rfl))
  obtain ⟨t, a, xs, ex, hq, q⟩ := q1
  subst ex
  cases r1 with
  | cons r rr =>
    cases rr
    cases r
    obtain ⟨its, rv, p', hz, la⟩ := inv_sq I1 hq
    have go : ∀ h', IsEnum h' (s1.heap.objs.size + 1) s1.heap.objs.size 0 .none → ItA t h' s1.heap.objs.size a 0 → h'.objs.size = s1.heap.objs.size + 2 →
      (∀ b o, s1.heap.get? b = some o → h'.get? b = some o) → wpAny (model X.prog X.w) X.A (pyIter (.ref (s1.heap.objs.size + 1))) (PIE X pins σ (.Tuple elts kk tpos) R) X.xe { s1 with heap := h' } := fun h' he hit hsz hk => by
      refine wpAny_pyIter_enum he ?_
      have I2 : Inv X pins σ H1 { s1 with heap := h' } := I1.kept (t' := s1.toks) hk
      refine ⟨s1.heap.objs.size + 1, [s1.heap.objs.size + 1, s1.heap.objs.size], _, _, H1, rfl, I2, turn_enumA t a (s1.heap.objs.size + 1) s1.heap.objs.size (Nat.ne_of_lt la) (Nat.ne_of_gt (Nat.lt_succ_of_lt la)), ⟨⟨.none, he⟩, hit, Nat.succ_ne_self _⟩, fun b hb => ?_, q⟩
      have e' : b = s1.heap.objs.size + 1 ∨ b = s1.heap.objs.size := by simpa using hb
      have hle : s1.heap.objs.size ≤ b := by
        rcases e' with z | z
        · rw [z]; exact Nat.le_add_right _ _
        · rw [z]; exact Nat.le_refl _
      exact I1.fpOk hle (I1.hok.fresh hle)
    cases t
    · exact call_enumerate_list p' fun h' he hit hsz hk => go h' he hit hsz hk
    · exact call_enumerate_tuple p' fun h' he hit hsz hk => go h' he hit hsz hk

/-! ### over data -/
section
variable {B : ObjB} {X : Cx} {c : Ctx B} {pos : Pos} {K : PySem.W.Frag} {M : Hp}
theorem Rep.itemsS {v : V} {x : D} {xs : List D} (r : Rep K M v x) (e : itemsOf x = some xs) : ∃ t p vs, v = .ref p ∧ SqA K t M p vs ∧ Reps K M vs xs := by
  obtain ⟨p, vs, e, h | h, r⟩ := r.itemsM e
  · exact ⟨false, p, vs, e, h, r⟩
  · exact ⟨true, p, vs, e, h, r⟩
theorem sqA_same {t : Bool} {M M' : Hp} (s : Same M M') {a : Addr} {xs : List V} (h : SqA K t M a xs) : SqA K t M' a xs := by
  cases t
  · exact s.seq h
  · exact sqT_same s h
def zipD : List D → List D → List D
  | x :: xs, y :: ys => .tuple [x, y] :: zipD xs ys
  | _, _ => []
theorem zipD_get : ∀ (xs ys : List D) (i : Nat), (zipD xs ys)[i]? = (match xs[i]?, ys[i]? with
    | some x, some y => some (.tuple [x, y])
    | _, _ => none)
  | x :: xs, y :: ys, 0 => rfl
  | x :: xs, y :: ys, i + 1 => by simp only [zipD, List.getElem?_cons_succ]; exact zipD_get xs ys i
  | [], ys, i => by simp [zipD]
  | x :: xs, [], i => by
    simp only [zipD, List.getElem?_nil]
    cases (x :: xs)[i]? <;> rfl
theorem zipD_length : ∀ (xs ys : List D), (zipD xs ys).length = min xs.length ys.length
  | x :: xs, y :: ys => by simp only [zipD, List.length_cons, zipD_length xs ys]; omega
  | [], ys => by simp [zipD]
  | x :: xs, [] => by simp [zipD]
theorem walk_zip {t1 t2 : Bool} {a b : Addr} {vs ws : List V} {xs ys : List D} (h1 : SqA K t1 M a vs) (r1 : Reps K M vs xs) (h2 : SqA K t2 M b ws) (r2 : Reps K M ws ys) : WalkJ K M (ItzA K t1 t2 a b) (zipD xs ys) where
  go := fun i H M' d k s e => by
    rw [zipD_get] at e
    split at e
    · rename_i x y ex ey
      cases e
      obtain ⟨v, hv, rv⟩ := r1.get ex
      obtain ⟨w, hw, rw'⟩ := r2.get ey
      have g1 := sqA_same (s.trans k.same) h1
      have g2 := sqA_same (s.trans k.same) h2
      refine ⟨⟨vs, ws, v, w, g1, g2, hv, hw⟩, fun z H' q => ?_⟩
      obtain ⟨T, v', w', rfl, hT, rfl, q1, q2⟩ := q
      have e1 := q1 vs g1
      have e2 := q2 ws g2
      rw [hv] at e1; cases e1
      rw [hw] at e2; cases e2
      exact ⟨_, .alloc k hT rfl, .newT (k.free hT) (.cons (rv.same s) (.cons (rw'.same s) .nil))⟩
    · cases e
  stop := fun H M' k s => by
    refine ⟨vs, ws, sqA_same (s.trans k.same) h1, sqA_same (s.trans k.same) h2, ?_, ?_, ?_⟩
    · rw [zipD_length, r1.length]; omega
    · rw [zipD_length, r2.length]; omega
    · rw [zipD_length, r1.length, r2.length]; omega
def iZipD (f : Env B → R (List D)) : Env B → R (List D) := fun ρ => (f ρ).bind fun xs => match xs with
  | [x, y] => (toItems x).bind fun xs => (toItems y).bind fun ys => .ok (zipD xs ys)
  | _ => .stuck
theorem di_zip {e e2 : Expr} {fa : Env B → R (List D)} {p tpos : Pos} {elts : List Expr} {kk : Nat} (K : c.K = X.K) (hm : X.mg "zip" = none) (ha : DA X c [e, e2] fa) (hg : Gl X "zip" := by rfl)
    (hs : starEach [e, e2] X.env = (false, eval e X.env) :: starEach [e2] X.env := by rfl) (hpl : (backTo pos (starEach [e2] X.env)).any (·.1) = false := by rfl) :
    DI X c (.Tuple elts kk tpos) (.Call (.Name "zip" p) [e, e2] [] pos) (iZipD fa) := by
  refine ⟨PI.imp (pi_zipX hg hm ha.pa hs hpl) fun σ H Q ⟨I, M, ρ, e, q⟩ => ?_⟩
  refine ⟨I, M, ρ, e, RD.mono q.bind fun x hx v H1 M1 k1 e1 r1 => ?_⟩
  split at hx
  · obtain ⟨xs, hxs, hx⟩ := toItems_rd hx.bind
    obtain ⟨ys, hys, hx⟩ := toItems_rd hx.bind
    cases r1 with
    | cons r1 r2 =>
      cases r2 with
      | cons r2 r3 =>
        cases r3
        obtain ⟨t1, a, vs, rfl, s1, q1⟩ := r1.itemsS hxs
        obtain ⟨t2, b, ws, rfl, s2, q2⟩ := r2.itemsS hys
        rw [← K]
        exact ⟨t1, t2, a, b, vs, ws, rfl, sqA_same e1.mok.same s1, sqA_same e1.mok.same s2, hx _ _ _ k1 e1 (walk_zip s1 q1 s2 q2)⟩
  · exact hx.elim
def enumFrom : Nat → List D → List D
  | _, [] => []
  | n, x :: xs => .tuple [.int n, x] :: enumFrom (n + 1) xs
theorem enumFrom_get : ∀ (xs : List D) (n i : Nat), (enumFrom n xs)[i]? = (xs[i]?).map fun x => PyData.tuple [.int (n + i : Nat), x]
  | [], n, i => by simp [enumFrom]
  | x :: xs, n, 0 => rfl
  | x :: xs, n, i + 1 => by
    simp only [enumFrom, List.getElem?_cons_succ]
    rw [enumFrom_get xs (n + 1) i]
    rw [show n + 1 + i = n + (i + 1) by omega]
theorem enumFrom_length : ∀ (xs : List D) (n : Nat), (enumFrom n xs).length = xs.length
  | [], n => rfl
  | x :: xs, n => by simp [enumFrom, enumFrom_length xs]
theorem walk_enum {t : Bool} {a : Addr} {vs : List V} {xs : List D} (h1 : SqA K t M a vs) (r1 : Reps K M vs xs) : WalkJ K M (IteA K t a) (enumFrom 0 xs) where
  go := fun i H M' d k s e => by
    rw [enumFrom_get] at e
    simp only [Option.map_eq_some_iff] at e
    obtain ⟨x, ex, rfl⟩ := e
    obtain ⟨v, hv, rv⟩ := r1.get ex
    have g1 := sqA_same (s.trans k.same) h1
    refine ⟨⟨vs, v, g1, hv⟩, fun z H' q => ?_⟩
    obtain ⟨T, v', rfl, hT, rfl, q1⟩ := q
    have e1 := q1 vs g1
    rw [hv] at e1; cases e1
    rw [show 0 + i = i by omega]
    exact ⟨_, .alloc k hT rfl, .newT (k.free hT) (.cons (.int _) (.cons (rv.same s) .nil))⟩
  stop := fun H M' k s => ⟨vs, sqA_same (s.trans k.same) h1, by rw [enumFrom_length]; exact r1.length⟩
def iEnumD (f : Env B → R (List D)) : Env B → R (List D) := fun ρ => (f ρ).bind fun xs => match xs with
  | [x] => (toItems x).bind fun xs => .ok (enumFrom 0 xs)
  | _ => .stuck
theorem di_enum {e : Expr} {fa : Env B → R (List D)} {p tpos : Pos} {elts : List Expr} {kk : Nat} (K : c.K = X.K) (hm : X.mg "enumerate" = none) (ha : DA X c [e] fa) (hg : Gl X "enumerate" := by rfl) (hs : starEach [e] X.env = [(false, eval e X.env)] := by rfl) :
    DI X c (.Tuple elts kk tpos) (.Call (.Name "enumerate" p) [e] [] pos) (iEnumD fa) := by
  refine ⟨PI.imp (pi_enumA hg hm ha.pa hs) fun σ H Q ⟨I, M, ρ, e, q⟩ => ?_⟩
  refine ⟨I, M, ρ, e, RD.mono q.bind fun x hx v H1 M1 k1 e1 r1 => ?_⟩
  split at hx
  · obtain ⟨xs, hxs, hx⟩ := toItems_rd hx.bind
    cases r1 with
    | cons r1 r2 =>
      cases r2
      obtain ⟨t1, a, vs, rfl, s1, q1⟩ := r1.itemsS hxs
      rw [← K]
      exact ⟨t1, a, vs, rfl, sqA_same e1.mok.same s1, hx _ _ _ k1 e1 (walk_enum s1 q1)⟩
  · exact hx.elim
/-- reversed(list) -/
theorem walk_rev {a : Addr} {vs : List V} {xs : List D} (h1 : SqL K M a vs) (r1 : Reps K M vs xs) : WalkJ K M (Itv K a vs.length) xs.reverse where
  go := fun i H M' d k s e => by
    have hi : i < xs.length := by
      have := (List.getElem?_eq_some_iff.mp e).1
      simpa using this
    rw [List.getElem?_reverse hi] at e
    obtain ⟨v, hv, rv⟩ := r1.get e
    have g1 := (s.trans k.same).seq h1
    have hl := r1.length
    rw [← hl] at hv
    refine ⟨⟨by omega, vs, v, g1, hv⟩, fun z H' q => ?_⟩
    obtain ⟨rfl, q⟩ := q
    have e1 := q vs g1
    rw [hv] at e1; cases e1
    exact ⟨M', .refl k, rv.same s⟩
  stop := fun H M' k s => by
    show vs.length ≤ xs.reverse.length
    rw [List.length_reverse, r1.length]
    exact Nat.le_refl _
def iRevD (f : Env B → R (List D)) : Env B → R (List D) := fun ρ => (f ρ).bind fun xs => match xs with
  | [.list xs] => .ok xs.reverse
  | _ => .stuck
theorem di_rev {tg e : Expr} {fa : Env B → R (List D)} {p : Pos} (K : c.K = X.K) (hm : X.mg "reversed" = none) (ha : DA X c [e] fa) (hg : Gl X "reversed" := by rfl) (hs : starEach [e] X.env = [(false, eval e X.env)] := by rfl) :
    DI X c tg (.Call (.Name "reversed" p) [e] [] pos) (iRevD fa) := by
  refine ⟨PI.imp (pi_reversed hg hm ha.pa hs) fun σ H Q ⟨I, M, ρ, e, q⟩ => ?_⟩
  refine ⟨I, M, ρ, e, RD.mono q.bind fun x hx v H1 M1 k1 e1 r1 => ?_⟩
  split at hx
  · cases r1 with
    | cons r1 r2 =>
      cases r2
      cases r1 with
      | lst h r =>
        rw [← K]
        exact ⟨_, _, rfl, SqL.of (e1.mok.same _ _ h), hx _ _ _ k1 e1 (walk_rev (SqL.of h) r)⟩
  · exact hx.elim
end
end PL

set_option Elab.async false
set_option linter.all false
set_option maxRecDepth 100000
set_option maxHeartbeats 4000000
/-! comprehensions, fresh lists -/
namespace PL
open PySem PySem.Spec PyProof.Rows L2
section
variable {B : ObjB} {X : Cx} {c : Ctx B} {pos : Pos} {K : PySem.W.Frag} {I : Ent} {M H M' H' : Hp} {σ σ' : L2.St} {ρ ρ' : Env B}

/-! ### fresh lists -/
def PostL (c : Ctx B) (I : Ent) (M H : Hp) (σ : L2.St) (ρ : Env B) (Q : VK) (ds : List D) : Prop := ∀ l vs H' M', Step I.b M H M' H' → EnvR c.K I M' H' σ ρ → H' l = some (.lst vs) → M' l = none → H l = none → Reps c.K M' vs ds → Q (.ref l) H'
def tDL (c : Ctx B) (f : Env B → R (List D)) : TE := fun σ H Q => ∃ I M ρ, EnvR c.K I M H σ ρ ∧ RD c I (f ρ) (PostL c I M H σ ρ Q)
structure DL (X : Cx) (c : Ctx B) (e : Expr) (f : Env B → R (List D)) : Prop where
  pe : PE X e (tDL c f)
theorem EnvR.ownThere {K : PySem.W.Frag} (e : EnvR K I M H σ ρ) {j : Nat} {es : List D} (h : ρ[j]? = some (.own es)) {l : Addr} (n : H l = none) : σ[j]? ≠ some (some (.ref l)) := fun z => by
  obtain ⟨l', vs, a, hl, _⟩ := e.slots j _ h
  rw [a] at z
  cases z
  rw [n] at hl
  cases hl
def eL (f : Env B → R (List D)) : Env B → R D := fun ρ => (f ρ).bind fun ds => .ok (.list ds)
theorem de_l {e : Expr} {f : Env B → R (List D)} (h : DL X c e f) : DE X c e (eL f) := by
  refine ⟨PE.imp h.pe fun σ H Q ⟨I, M, ρ, e, q⟩ => ?_⟩
  refine ⟨I, M, ρ, e, q.bind.mono fun ds hx l vs H1 M1 k1 e1 hl ml nl r => ?_⟩
  have il : I.H l = none := e.ent.free nl
  have e2 := e1.adopt (o := .lst vs) hl rfl ml il fun j es hj => fun z => e.ownThere hj nl z
  refine hx _ H1 _ ⟨k1.k, k1.m.trans (upd_same_of ml), fun a o h n => ?_⟩ e2 (.newL ml r)
  by_cases z : a = l
  · subst z; exact nl
  · rw [upd_ne z] at h; exact k1.new a o h n
/-- a display, list(x), [x] * n, list(range(n)) -/
def lDisp (f : Env B → R (List D)) : Env B → R (List D) := fun ρ => (f ρ).bind fun xs => if xs.length ≤ 1000 then .ok xs else .stuck
theorem fresh_end {I : Ent} {M0 H0 M H : Hp} {σ : L2.St} {ρ : Env B} {Q : VK} {ds : List D} (h : PostL c I M0 H0 σ ρ Q ds) (k : Step I.b M0 H0 M H) (e : EnvR c.K I M H σ ρ) {vs : List V} (r : Reps c.K M vs ds) : ∀ p, H p = none → Q (.ref p) (upd H p (.lst vs)) := fun p hp => by
  have mp := e.mok.free hp
  have sm : Same H (upd H p (.lst vs)) := upd_same_of hp
  have e2 : EnvR c.K I M (upd H p (.lst vs)) σ ρ := by
    refine e.grow ⟨sm, Same.refl _, fun a o h => ?_, fun a o h n => by rw [h] at n; cases n⟩
    exact ⟨sm _ _ (e.mok a o h).1, (e.mok a o h).2⟩
  exact h p vs _ M (k.trans ⟨.of sm, Same.refl _, fun a o h n => by rw [h] at n; cases n⟩) e2 upd_same mp (k.k.free hp) r
theorem dl_lst {es : List Expr} {f : Env B → R (List D)} (h : DA X c es f) : DL X c (.List es pos) (lDisp f) := by
  refine ⟨PE.imp (pe_lst h.pa) fun σ H Q ⟨I, M, ρ, e, q⟩ => ?_⟩
  refine ⟨I, M, ρ, e, q.bind.mono fun x hx vs H1 M1 k1 e1 r1 => ?_⟩
  split at hx
  · rename_i hl
    exact ⟨by rw [r1.length]; exact le_line hl, fresh_end hx k1 e1 r1⟩
  · exact hx.elim
def lList (f : Env B → R (List D)) : Env B → R (List D) := fun ρ => (f ρ).bind fun xs => match xs with
  | [x] => toItems x
  | _ => .stuck
theorem dl_list {e : Expr} {es : List Expr} {f : Env B → R (List D)} {p : Pos} (K : c.K = X.K) (hm : X.mg "list" = none) (ha : DA X c (e :: es) f) (hg : Gl X "list" := by rfl) (he : starEach (e :: es) X.env = (false, eval e X.env) :: starEach es X.env := by rfl) (hpl : (backTo pos (starEach es X.env)).any (·.1) = false := by rfl) :
    DL X c (.Call (.Name "list" p) (e :: es) [] pos) (lList f) := by
  refine ⟨PE.imp (pe_callTy call_list_of hg hm boot_listT ha.pa (he := he) (hpl := hpl)) fun σ H Q ⟨I, M, ρ, e, q⟩ => ?_⟩
  refine ⟨I, M, ρ, e, q.bind.mono fun x hx v H1 M1 k1 e1 r1 => ?_⟩
  split at hx
  · obtain ⟨xs, hxs, hx⟩ := toItems_rd hx
    cases r1 with
    | cons r1 r2 =>
      cases r2
      obtain ⟨p, vs, rfl, hs, rr⟩ := r1.items e1.mok hxs
      rw [← K]
      exact ⟨_, _, rfl, hs, fresh_end hx k1 e1 rr⟩
  · exact hx.elim
def lRep (f g : Env B → R D) : Env B → R (List D) := fun ρ => (f ρ).bind fun x => (g ρ).bind fun y => match x, y with
  | .list xs, .int k => if 0 ≤ k ∧ k ≤ 1000 ∧ xs.length ≤ 100 then .ok (List.replicate k.toNat xs).flatten else .stuck
  | _, _ => .stuck
theorem dl_rep {a b : Expr} {f g : Env B → R D} (ha : DE X c a f) (hb : DE X c b g) : DL X c (.BinOp a .Mult b pos) (lRep f g) := by
  refine ⟨PE.imp (pe_op op_rep ha.pe hb.pe) fun σ H Q ⟨I, M, ρ, e, q⟩ => ?_⟩
  refine ⟨I, M, ρ, e, q.bind.mono fun x hx v H1 M1 k1 e1 r1 => ?_⟩
  refine ⟨I, M1, ρ, e1, hx.bind.mono fun y hy u H2 M2 k2 e2 r2 => ?_⟩
  split at hy
  · split at hy
    · rename_i hs
      obtain ⟨h1, h2, h3⟩ := hs
      cases r2
      cases r1.same k2.m with
      | lst h r =>
        refine ⟨_, _, _, rfl, rfl, e2.mok.same _ _ h, by omega, by omega, ?_, fresh_end hy (k1.trans k2) e2 (r.rep _)⟩
        rw [r.length]
        exact Nat.le_trans (Nat.mul_le_mul h3 (Int.toNat_le.mpr (by omega : _ ≤ ((1000 : Nat) : Int)))) (by decide)
    · exact hy.elim
  · exact hy.elim

/-! ### the environment of a block -/
def wipeE (ρ : Env B) : List Nat → Env B
  | [] => ρ
  | v :: vs => (wipeE ρ vs).set v .no
theorem wipeE_length : ∀ vs : List Nat, (wipeE ρ vs).length = ρ.length
  | [] => rfl
  | v :: vs => by unfold wipeE; rw [List.length_set, wipeE_length vs]
theorem EnvR.wipe (e : EnvR K I M H σ ρ) : ∀ vs : List Nat, EnvR K I M H (L2.wipe σ vs) (wipeE ρ vs)
  | [] => e
  | v :: vs => by unfold L2.wipe wipeE; exact (EnvR.wipe e vs).setNo
theorem wipeE_at (ρ : Env B) : ∀ (vs : List Nat) (j : Nat), (wipeE ρ vs)[j]? = if j ∈ vs then (if j < ρ.length then some .no else none) else ρ[j]?
  | [], j => by simp [wipeE]
  | v :: vs, j => by
    unfold wipeE
    by_cases hv : v = j
    · subst hv
      by_cases hl : v < ρ.length
      · rw [List.getElem?_set_self (by rw [wipeE_length]; exact hl)]
        simp [hl]
      · rw [List.getElem?_eq_none (by rw [List.length_set, wipeE_length]; omega)]
        simp [hl]
    · rw [List.getElem?_set_ne hv, wipeE_at ρ vs j]
      have e : (j ∈ v :: vs) ↔ j ∈ vs := by
        rw [List.mem_cons]
        exact ⟨fun h => h.resolve_left (fun z => hv z.symm), .inr⟩
      by_cases hj : j ∈ vs
      · rw [if_pos hj, if_pos (e.mpr hj)]
      · rw [if_neg hj, if_neg (fun z => hj (e.mp z))]
theorem wipe_at (σ : L2.St) : ∀ (vs : List Nat) (j : Nat), (L2.wipe σ vs)[j]? = if j ∈ vs then (if j < σ.length then some none else none) else σ[j]?
  | [], j => by simp [L2.wipe]
  | v :: vs, j => by
    unfold L2.wipe
    by_cases hv : v = j
    · subst hv
      by_cases hl : v < σ.length
      · rw [List.getElem?_set_self (by rw [L2.wipe_length]; exact hl)]
        simp [hl]
      · rw [List.getElem?_eq_none (by rw [List.length_set, L2.wipe_length]; omega)]
        simp [hl]
    · rw [List.getElem?_set_ne hv, wipe_at σ vs j]
      have e : (j ∈ v :: vs) ↔ j ∈ vs := by
        rw [List.mem_cons]
        exact ⟨fun h => h.resolve_left (fun z => hv z.symm), .inr⟩
      by_cases hj : j ∈ vs
      · rw [if_pos hj, if_pos (e.mpr hj)]
      · rw [if_neg hj, if_neg (fun z => hj (e.mp z))]
theorem wipeE_off {is vs : List Nat} (o : OffE is (wipeE ρ vs) ρ') (s : ∀ j ∈ is, j ∈ vs) : wipeE ρ' vs = wipeE ρ vs := by
  apply List.ext_getElem?
  intro j
  rw [wipeE_at, wipeE_at]
  have hl := o.1
  rw [wipeE_length] at hl
  by_cases hj : j ∈ vs
  · rw [if_pos hj, if_pos hj, hl]
  · rw [if_neg hj, if_neg hj, o.2 j (fun z => hj (s j z)), wipeE_at, if_neg hj]
theorem wipe_off {is vs : List Nat} (o : Off is (L2.wipe σ vs) σ') (s : ∀ j ∈ is, j ∈ vs) : L2.wipe σ' vs = L2.wipe σ vs := by
  apply List.ext_getElem?
  intro j
  rw [wipe_at, wipe_at]
  have hl := o.1
  rw [L2.wipe_length] at hl
  by_cases hj : j ∈ vs
  · rw [if_pos hj, if_pos hj, hl]
  · rw [if_neg hj, if_neg hj, o.2 j (fun z => hj (s j z)), wipe_at, if_neg hj]
/-- no list, no object of the names that the block takes -/
def plainAt (ρ : Env B) (j : Nat) : Bool := match ρ[j]? with
  | some (.own _) => false
  | some (.obj _) => false
  | _ => true
theorem EnvR.unwipe {vs : List Nat} (e : EnvR K I M H σ ρ) (e' : EnvR K I M' H' (L2.wipe σ vs) (wipeE ρ vs)) (s : Same M M') (cl : vs.all (plainAt ρ) = true) : EnvR K I M' H' σ ρ where
  len := e.len
  ent := e'.ent
  msub := e'.msub
  mok := e'.mok
  mnew := e'.mnew
  slots := fun j s' h => by
    by_cases hj : j ∈ vs
    · have c := List.all_eq_true.mp cl j hj
      unfold plainAt at c
      rw [h] at c
      have q := e.slots j _ h
      cases s' with
      | no => trivial
      | val d => obtain ⟨v, a, r⟩ := q; exact ⟨v, a, r.same s⟩
      | own _ => cases c
      | obj _ => cases c
    · have h1 : (wipeE ρ vs)[j]? = some s' := by rw [wipeE_at, if_neg hj]; exact h
      have q := e'.slots j s' h1
      rw [wipe_at, if_neg hj] at q
      exact q
  apart := e.apart

/-! ### each of some -/
def eachR {α β : Type} (step : α → R (List β)) : List α → R (List β)
  | [] => .ok []
  | d :: r => (step d).bind fun o => (eachR step r).bind fun ys => .ok (o ++ ys)
def lcStep (t : ETg B) (test : Env B → R Bool) (elt : Env B → R D) (ρ : Env B) (d : D) : R (List D) := (noE (t d ρ)).bind fun ρ1 => (noE (test ρ1)).bind fun b => if b = true then (noE (elt ρ1)).bind fun y => .ok [y] else .ok []
def lLc (fi : Env B → R (List D)) (t : ETg B) (test : Env B → R Bool) (elt : Env B → R D) (own : List Nat) : Env B → R (List D) := fun ρ => (fi ρ).bind fun items =>
  if items.length ≤ 100000 ∧ own.all (plainAt ρ) = true then noE (eachR (lcStep t test elt (wipeE ρ own)) items) else .stuck
def tYesD : Env B → R Bool := fun _ => .ok true
structure DTs (X : Cx) (c : Ctx B) (ifs : List Expr) (f : Env B → R Bool) : Prop where
  pts : PTs X ifs (tDT c f)
theorem PTs.imp {X : Cx} {e : List Expr} {t u : TT} (h : PTs X e t) (k : ∀ σ H Q, u σ H Q → t σ H Q) : PTs X e u := ⟨fun pins s σ H Q I q => h.run pins s σ H Q I (k σ H Q q)⟩
theorem dts_nil : DTs X c [] (tYesD : Env B → R Bool) := ⟨PTs.imp pts_nil fun σ H Q ⟨I, M, ρ, e, q⟩ => q H M .refl e⟩
theorem dts_one {e : Expr} {f : Env B → R Bool} (h : DT X c e f) : DTs X c [e] f := ⟨pts_one h.pt⟩
abbrev Ctx.quiet (c : Ctx B) : Ctx B := { c with E := fun _ _ _ => False }
theorem bind_noE {α β : Type} {r : R α} {k : α → R β} {b : β} (h : (noE r).bind k = .ok b) : ∃ a, r = .ok a ∧ k a = .ok b := by
  obtain ⟨a, h1, h2⟩ := R.bind_eq h
  exact ⟨a, noE_ok h1, h2⟩
theorem RD.of_ok {α : Type} {r : R α} {a : α} {P : α → Prop} {c : Ctx B} {I : Ent} (h : r = .ok a) (p : P a) : RD c I r P := by rw [h]; exact p
/-- what a comprehension's reading wants -/
theorem imp_lc {X : Cx} {c : Ctx B} {elt tg : Expr} {own : List Nat} {is : List Nat} {fi : Env B → R (List D)} {t : ETg B} {test : Env B → R Bool} {fe : Env B → R D} (hK : c.K = X.K) (off : ∀ d ρ ρ', t d ρ = .ok ρ' → OffE is ρ ρ') (his : ∀ j ∈ is, j ∈ own) {σ : L2.St} {H : Hp} {Q : VK}
    (q : tDL c (lLc fi t test fe own) σ H Q) : tLc (iD c fi) (gD X.K is t) (tDT c.quiet test) (tD c.quiet fe) own σ H Q := by
  obtain ⟨I, M, ρ, e, q⟩ := q
  refine ⟨I, M, ρ, e, q.bind.mono fun items hx J H1 M1 k1 e1 wj D hD => ?_⟩
  split at hx
  case isFalse => exact hx.elim
  rename_i hc
  obtain ⟨hlen, hcl⟩ := hc
  obtain ⟨fin, hfin, hp⟩ := hx.noE
  have mD : M1 D = none := e1.mok.free hD
  refine ⟨fun i m H => m = items.length - i ∧ i ≤ items.length ∧ ∃ M acc accd rest, Step I.b M1 H1 M H ∧ EnvR c.K I M H σ ρ ∧ H D = some (.lst acc) ∧ M D = none ∧ Reps c.K M acc accd ∧ accd.length ≤ i ∧
    eachR (lcStep t test fe (wipeE ρ own)) (items.drop i) = .ok rest ∧ accd ++ rest = fin, ⟨items.length, by simp, Nat.zero_le _, M1, [], [], fin, ?_, ?_, upd_same, mD, .nil, Nat.le_refl _, by simpa using hfin, rfl⟩, ?_⟩
  · exact ⟨.of (upd_same_of hD), Same.refl _, fun a o h n => by rw [h] at n; cases n⟩
  · refine e1.grow ⟨upd_same_of hD, Same.refl _, fun a o h => ?_, fun a o h n => by rw [h] at n; cases n⟩
    exact ⟨upd_same_of hD _ _ (e1.mok a o h).1, (e1.mok a o h).2⟩
  · rintro i m H2 ⟨rfl, hi', M2, acc, accd, rest, k2, e2, hacc, mD2, racc, hal, hrest, hfin2⟩
    by_cases hlt : i < items.length
    · refine .inr ?_
      have ed : items[i]? = some items[i] := by simp [hlt]
      obtain ⟨go, yl⟩ := wj.go i H2 M2 items[i] e2.mok k2.m ed
      have hdrop : items.drop i = items[i] :: items.drop (i + 1) := by rw [List.drop_eq_getElem_cons hlt]
      rw [hdrop] at hrest
      unfold eachR at hrest
      obtain ⟨o, ho, hrest⟩ := R.bind_eq hrest
      obtain ⟨ys, hys, hrest⟩ := R.bind_eq hrest
      cases hrest
      unfold lcStep at ho
      obtain ⟨ρ1, hρ1, ho⟩ := bind_noE ho
      obtain ⟨b, hb, ho⟩ := bind_noE ho
      refine ⟨go, fun H' => ∃ M', Step I.b M1 H1 M' H' ∧ EnvR c.K I M' H' σ ρ ∧ ∃ acc accd, H' D = some (.lst acc) ∧ M' D = none ∧ Reps c.K M' acc accd ∧ accd.length ≤ i + 1 ∧ accd ++ ys = fin, fun H' h' => ?_, fun x H' y => ?_⟩
      · obtain ⟨M', a1, a2, acc', accd', a3, a4, a5, a6, a7⟩ := h'
        exact ⟨items.length - (i + 1), by omega, rfl, hlt, M', acc', accd', ys, a1, a2, a3, a4, a5, a6, hys, a7⟩
      · obtain ⟨M3, g3, r3⟩ := yl x H' y
        have e3 := e2.grow g3
        have k3 : Step I.b M1 H1 M3 H' := k2.trans (.of g3)
        have hacc3 : H' D = some (.lst acc) := g3.h _ _ hacc
        have mD3 : M3 D = none := by
          cases q3 : M3 D with
          | none => rfl
          | some o3 => rw [g3.new D o3 q3 mD2] at hacc; cases hacc
        have racc3 := racc.same g3.m
        have ew := e3.wipe own
        refine ⟨I, M3, wipeE ρ own, items[i], ρ1, hK ▸ ew, hK ▸ r3, hρ1, fun σ2 e4 o4 => ?_⟩
        have w1 := wipe_off o4 his
        have w2 := wipeE_off (off _ _ _ hρ1) his
        refine ⟨w1, ?_⟩
        have e4' : EnvR c.K I M3 H' σ2 ρ1 := hK ▸ e4
        -- back in the def's names
        have back : ∀ {M5 H5 : Hp}, EnvR c.K I M5 H5 σ2 ρ1 → Step I.b M3 H' M5 H5 → EnvR c.K I M5 H5 σ ρ := fun {M5 H5} e5 k5 => by
          have z := e5.wipe own
          rw [w1, w2] at z
          exact e3.unwipe z k5.m hcl
        have keepD : ∀ {M5 H5 : Hp}, Step I.b M3 H' M5 H5 → H5 D = some (.lst acc) ∧ M5 D = none := fun {M5 H5} k5 => by
          refine ⟨k5.k.at hacc3 rfl, ?_⟩
          cases q5 : M5 D with
          | none => rfl
          | some o5 => rw [k5.new D o5 q5 mD3] at hacc3; cases hacc3
        refine ⟨I, M3, ρ1, e4', RD.of_ok hb fun H5 M5 k5 e5 => ?_⟩
        cases b with
        | false =>
          rw [if_neg Bool.false_ne_true] at ho ⊢
          cases ho
          obtain ⟨d1, d2⟩ := keepD k5
          exact ⟨M5, k3.trans k5, back e5 k5, acc, accd, d1, d2, racc3.same k5.m, by omega, hfin2⟩
        | true =>
          rw [if_pos rfl] at ho ⊢
          obtain ⟨y5, hy5, ho⟩ := bind_noE ho
          cases ho
          refine ⟨I, M5, ρ1, e5, RD.of_ok hy5 fun v6 H6 M6 k6 e6 r6 => ?_⟩
          have k56 := k5.trans k6
          obtain ⟨d1, d2⟩ := keepD k56
          refine ⟨acc, d1, ?_, M6, ?_, ?_, acc ++ [v6], accd ++ [y5], upd_same, d2, (racc3.same k56.m).append (.cons r6 .nil), ?_, ?_⟩
          · rw [racc.length]
            exact Nat.lt_of_le_of_lt (Nat.le_trans hal hi') (Nat.lt_of_le_of_lt hlen (by decide))
          · -- the list at D grows
            have k36 := k3.trans k56
            refine ⟨fun a u h => ?_, k36.m, k36.new⟩
            by_cases z : a = D
            · subst z; rw [hD] at h; cases h
            · rw [upd_ne z]; exact k36.k a u h
          · have eb := back e6 k56
            refine ⟨eb.len, fun a u h => ?_, eb.msub, fun a u h => ?_, eb.mnew, fun j s hj => ?_, eb.apart⟩
            · by_cases z : a = D
              · subst z
                have := e1.ent.free hD
                rw [this] at h; cases h
              · rw [upd_ne z]; exact eb.ent a u h
            · have z : a ≠ D := fun z => by subst z; rw [d2] at h; cases h
              rw [upd_ne z]; exact eb.mok a u h
            · have q6 := eb.slots j s hj
              cases s with
              | no => trivial
              | val d => exact q6
              | own ds =>
                obtain ⟨l, vs, b1, b2, b3, b4, b5⟩ := q6
                have nl : l ≠ D := fun z => by
                  subst z
                  exact e1.ownThere hj hD b1
                exact ⟨l, vs, b1, by rw [upd_ne nl]; exact b2, b3, b4, b5⟩
              | obj z =>
                obtain ⟨v, b1, b2⟩ := q6
                refine ⟨v, b1, B.mono _ _ _ _ _ _ _ b2 (Same.refl _) fun a o h ni => ?_⟩
                have nl : a ≠ D := fun z => by subst z; rw [d1] at h; cases h; cases ni
                rw [upd_ne nl]; exact h
          · rw [List.length_append, List.length_singleton]; omega
          · rw [List.append_assoc]; exact hfin2
    · have ei : i = items.length := by omega
      subst ei
      refine .inl ⟨wj.stop H2 M2 e2.mok k2.m, ?_⟩
      have er : rest = [] := by
        rw [List.drop_length] at hrest
        cases hrest
        rfl
      subst er
      rw [List.append_nil] at hfin2
      subst hfin2
      exact hp D acc H2 M2 (k1.trans k2) e2 hacc mD2 (k1.k.free hD) racc
/-- [elt for target in iter if ..] -/
theorem dl_lc {elt tg iter : Expr} {ifs : List Expr} {scope : Scope} {own : List (Str × Nat)} {is : List Nat} {fi : Env B → R (List D)} {t : ETg B} {test : Env B → R Bool} {fe : Env B → R D} {k : Nat} (G : Good X c k) (hi : DI X c tg iter fi) (ok : BlkOk X.N X.env.scope scope own)
    (hg : ∀ (s : Shared) (H : Hp) (C : Addr) (cl : List (Str × Addr)) (fp : List Addr), DG (X.blk s H scope (compEnvC scope cl C X.env) fp) tg is t) (his : ∀ j ∈ is, j ∈ own.map (·.2))
    (ht : ∀ (s : Shared) (H : Hp) (C : Addr) (cl : List (Str × Addr)) (fp : List Addr), Good (X.blk s H scope (compEnvC scope cl C X.env) fp) c.quiet k → DTs (X.blk s H scope (compEnvC scope cl C X.env) fp) c.quiet ifs test)
    (he : ∀ (s : Shared) (H : Hp) (C : Addr) (cl : List (Str × Addr)) (fp : List Addr), Good (X.blk s H scope (compEnvC scope cl C X.env) fp) c.quiet k → DE (X.blk s H scope (compEnvC scope cl C X.env) fp) c.quiet elt fe) (hs : ∀ x, foldedSetIterable iter X.env x = pure x := by intro _; rfl) :
    DL X c (.ListComp elt [⟨tg, iter, ifs, 0⟩] scope pos) (lLc fi t test fe (own.map (·.2))) := by
  have good : ∀ (s : Shared) (H : Hp) (C : Addr) (cl : List (Str × Addr)) (fp : List Addr), Good (X.blk s H scope (compEnvC scope cl C X.env) fp) c.quiet k := fun s H C cl fp => ⟨G.K, G.nd, G.calm, G.room, passN⟩
  exact ⟨⟨fun pins s0 σ0 H0 Q0 I0 hq0 => (pe_lc (own := own) (g := gD X.K is t) (tt := tDT c.quiet test) (te := tD c.quiet fe) G.calm G.nd hi.pi ok (fun s H C cl fp => (hg s H C cl fp).pg) (fun s H C cl fp => (ht s H C cl fp (good s H C cl fp)).pts) (fun s H C cl fp => (he s H C cl fp (good s H C cl fp)).pe) hs).run pins s0 σ0 H0 Q0 I0
    (imp_lc (elt := elt) (tg := tg) G.K (hg s0 H0 0 [] []).off his hq0)⟩⟩
/-- y = [..] on one line, y a local: its reading -/
theorem ps_lc {elt tg iter : Expr} {ifs : List Expr} {scope : Scope} {own : List (Str × Nat)} {is : List Nat} {fi : Env B → R (List D)} {t : ETg B} {test : Env B → R Bool} {fe : Env B → R D} {k i : Nat} {y : Str} {py spos : Pos} (G : Good X c k) (hy : X.N[i]? = some y) (hyl : X.env.scope.names.lookup y = some .local)
    (hsw : swapsWith (.ListComp elt [⟨tg, iter, ifs, 0⟩] scope pos) (some (.Name y py)) spos.line X.env = pure true) (hi : DI X c tg iter fi) (ok : BlkOk X.N X.env.scope scope own)
    (hg : ∀ (s : Shared) (H : Hp) (C : Addr) (cl : List (Str × Addr)) (fp : List Addr), DG (X.blk s H scope (compEnvC scope cl C X.env) fp) tg is t) (his : ∀ j ∈ is, j ∈ own.map (·.2))
    (ht : ∀ (s : Shared) (H : Hp) (C : Addr) (cl : List (Str × Addr)) (fp : List Addr), Good (X.blk s H scope (compEnvC scope cl C X.env) fp) c.quiet k → DTs (X.blk s H scope (compEnvC scope cl C X.env) fp) c.quiet ifs test)
    (he : ∀ (s : Shared) (H : Hp) (C : Addr) (cl : List (Str × Addr)) (fp : List Addr), Good (X.blk s H scope (compEnvC scope cl C X.env) fp) c.quiet k → DE (X.blk s H scope (compEnvC scope cl C X.env) fp) c.quiet elt fe) (hs : ∀ x, foldedSetIterable iter X.env x = pure x := by intro _; rfl) :
    PS X (.Assign [.Name y py] (.ListComp elt [⟨tg, iter, ifs, 0⟩] scope pos) spos) (tAsg (tDL c (lLc fi t test fe (own.map (·.2)))) (L2.gName i)) := by
  have good : ∀ (s : Shared) (H : Hp) (C : Addr) (cl : List (Str × Addr)) (fp : List Addr), Good (X.blk s H scope (compEnvC scope cl C X.env) fp) c.quiet k := fun s H C cl fp => ⟨G.K, G.nd, G.calm, G.room, passN⟩
  exact ⟨fun pins s0 σ0 H0 D0 I0 hq0 => (ps_setLc (own := own) (g := gD X.K is t) (tt := tDT c.quiet test) (te := tD c.quiet fe) G.calm G.nd hy hyl hsw hi.pi ok (fun s H C cl fp => (hg s H C cl fp).pg) (fun s H C cl fp => (ht s H C cl fp (good s H C cl fp)).pts) (fun s H C cl fp => (he s H C cl fp (good s H C cl fp)).pe) hs).run pins s0 σ0 H0 D0 I0
    (show tLc _ _ _ _ _ σ0 H0 _ from imp_lc (elt := elt) (tg := tg) G.K (hg s0 H0 0 [] []).off his hq0)⟩
end
end PL

set_option Elab.async false
set_option linter.all false
set_option maxRecDepth 100000
set_option maxHeartbeats 4000000
/-! statements, defs -/
namespace PL
open PySem PySem.Spec PyProof.Rows L2
inductive Fl where
  | nx | bk | ct
  | rt (d : D)
  | rtL (ds : List D)
abbrev GS (B : ObjB) := Env B → R (Fl × Env B)
section
variable {B : ObjB} {X : Cx} {c : Ctx B} {pos : Pos} {K : PySem.W.Frag} {I : Ent} {M H M' H' : Hp} {σ σ' : L2.St} {ρ ρ' : Env B}
def PostS (c : Ctx B) (I : Ent) (M : Hp) (Dn : Ends) (r : Fl × Env B) : Prop := match r.1 with
  | .nx => ∀ σ' H' M', Same M M' → EnvR c.K I M' H' σ' r.2 → Dn.nx σ' H'
  | .bk => ∀ σ' H' M', Same M M' → EnvR c.K I M' H' σ' r.2 → Dn.bk σ' H'
  | .ct => ∀ σ' H' M', Same M M' → EnvR c.K I M' H' σ' r.2 → Dn.ct σ' H'
  | .rt d => ∀ v σ' H' M', Same M M' → EnvR c.K I M' H' σ' r.2 → Rep c.K M' v d → Dn.rt v H'
  | .rtL ds => ∀ l vs σ' H' M', Same M M' → EnvR c.K I M' H' σ' r.2 → H' l = some (.lst vs) → M' l = none → I.H l = none → Reps c.K M' vs ds → Dn.rt (.ref l) H'
theorem PostS.same {Dn : Ends} {r : Fl × Env B} (h : PostS c I M Dn r) (s : Same M M') : PostS c I M' Dn r := by
  obtain ⟨fl, ρ⟩ := r
  cases fl with
  | nx => exact fun σ' H' M2 s2 e => h σ' H' M2 (s.trans s2) e
  | bk => exact fun σ' H' M2 s2 e => h σ' H' M2 (s.trans s2) e
  | ct => exact fun σ' H' M2 s2 e => h σ' H' M2 (s.trans s2) e
  | rt d => exact fun v σ' H' M2 s2 e r => h v σ' H' M2 (s.trans s2) e r
  | rtL ds => exact fun l vs σ' H' M2 s2 e => h l vs σ' H' M2 (s.trans s2) e
def tDS (c : Ctx B) (g : GS B) : TS := fun Dn σ H => ∃ I M ρ, EnvR c.K I M H σ ρ ∧ RD c I (g ρ) (PostS c I M Dn)
structure DS (X : Cx) (c : Ctx B) (st : Stmt) (g : GS B) : Prop where
  ps : PS X st (tDS c g)
structure DSs (X : Cx) (c : Ctx B) (sts : List Stmt) (g : GS B) : Prop where
  pss : PSs X sts (tDS c g)

/-! ### blocks -/
def gNil : GS B := fun ρ => .ok (.nx, ρ)
def gSeq (g1 g2 : GS B) : GS B := fun ρ => (g1 ρ).bind fun r => match r with
  | (.nx, ρ1) => g2 ρ1
  | r => .ok r
theorem dss_nil : DSs X c [] (gNil : GS B) := ⟨PSs.imp pss_nil fun Dn σ H ⟨I, M, ρ, e, q⟩ => q σ H M (Same.refl _) e⟩
theorem dss_cons {st : Stmt} {rest : List Stmt} {g1 g2 : GS B} (h : DS X c st g1) (h' : DSs X c rest g2) : DSs X c (st :: rest) (gSeq g1 g2) := by
  refine ⟨PSs.imp (pss_cons h.ps h'.pss) fun Dn σ H ⟨I, M, ρ, e, q⟩ => ?_⟩
  refine ⟨I, M, ρ, e, q.bind.mono fun r hr => ?_⟩
  obtain ⟨fl, ρ1⟩ := r
  cases fl with
  | nx => exact fun σ' H' M' s e' => ⟨I, M', ρ1, e', RD.mono hr fun r2 h2 => h2.same s⟩
  | bk => exact hr
  | ct => exact hr
  | rt d => exact hr
  | rtL ds => exact hr
theorem dss_one {st : Stmt} {g : GS B} (h : DS X c st g) : DSs X c [st] g := ⟨pss_one h.ps⟩
/-! ### returns, tests, expressions -/
def gRet (f : Env B → R D) : GS B := fun ρ => (f ρ).bind fun d => .ok (.rt d, ρ)
def gRetL (f : Env B → R (List D)) : GS B := fun ρ => (f ρ).bind fun d => .ok (.rtL d, ρ)
def gRetO (i : Nat) : GS B := fun ρ => match ρ[i]? with
  | some (.own ds) => .ok (.rtL ds, ρ)
  | _ => .stuck
theorem ds_ret {e : Expr} {f : Env B → R D} (h : DE X c e f) : DS X c (.Return (some e) pos) (gRet f) := by
  refine ⟨PS.imp (ps_ret h.pe) fun Dn σ H ⟨I, M, ρ, e, q⟩ => ?_⟩
  exact ⟨I, M, ρ, e, q.bind.mono fun d hd v H' M' k e' r => hd v σ H' M' k.m e' r⟩
theorem ds_retL {e : Expr} {f : Env B → R (List D)} (h : DL X c e f) : DS X c (.Return (some e) pos) (gRetL f) := by
  refine ⟨PS.imp (ps_ret h.pe) fun Dn σ H ⟨I, M, ρ, e, q⟩ => ?_⟩
  exact ⟨I, M, ρ, e, q.bind.mono fun d hd l vs H' M' k e' hl ml nl r => hd l vs σ H' M' k.m e' hl ml (e.ent.free nl) r⟩
theorem ds_retO {i : Nat} {x : Str} {p : Pos} (hN : X.N[i]? = some x) (hv : Vis X.env.scope x) (hd : (x == ("__debug__" : Str)) = false := by decide) (hcd : (x == ("__classdict__" : Str)) = false := by decide) : DS X c (.Return (some (.Name x p)) pos) (gRetO (B := B) i) := by
  refine ⟨PS.imp (ps_ret (pe_var hN hv hd hcd)) fun Dn σ H ⟨I, M, ρ, e, q⟩ => ?_⟩
  unfold gRetO at q
  split at q
  · rename_i ds hi
    obtain ⟨l, vs, a, hl, ml, il, r⟩ := e.slots i _ hi
    exact ⟨_, a, q l vs σ H M (Same.refl _) e hl ml il r⟩
  · exact q.elim
def gIf (t : Env B → R Bool) (g1 g2 : GS B) : GS B := fun ρ => (t ρ).bind fun b => if b = true then g1 ρ else g2 ρ
theorem ds_if {e : Expr} {a b : List Stmt} {t : Env B → R Bool} {g1 g2 : GS B} (ht : DT X c e t) (ha : DSs X c a g1) (hb : DSs X c b g2) : DS X c (.If e a b pos) (gIf t g1 g2) := by
  refine ⟨PS.imp (ps_if ht.pt ha.pss hb.pss) fun Dn σ H ⟨I, M, ρ, e, q⟩ => ?_⟩
  refine ⟨I, M, ρ, e, q.bind.mono fun b hb H' M' k e' => ?_⟩
  cases b with
  | true => exact ⟨I, M', ρ, e', RD.mono hb fun r h => h.same k.m⟩
  | false => exact ⟨I, M', ρ, e', RD.mono hb fun r h => h.same k.m⟩
def gDrop (f : Env B → R D) : GS B := fun ρ => (f ρ).bind fun _ => .ok (.nx, ρ)
theorem ds_expr {e : Expr} {f : Env B → R D} (h : DE X c e f) (hs : swapsWith e none pos.line X.env = pure false := by rfl) : DS X c (.Expr e pos) (gDrop f) := by
  refine ⟨PS.imp (ps_expr h.pe hs) fun Dn σ H ⟨I, M, ρ, e, q⟩ => ?_⟩
  exact ⟨I, M, ρ, e, q.bind.mono fun d hd v H' M' k e' r => hd σ H' M' k.m e'⟩
/-! ### stores -/
def gSet (i : Nat) (f : Env B → R D) : GS B := fun ρ => (f ρ).bind fun d => .ok (.nx, ρ.set i (.val d))
theorem ds_set {i : Nat} {x : Str} {e : Expr} {f : Env B → R D} {pos' : Pos} (hN : X.N.Nodup) (hi : X.N[i]? = some x) (hx : Loc X.env.scope x) (h : DE X c e f) (hs : swapsWith e (some (.Name x pos')) pos.line X.env = pure false := by rfl) (hf : X.fn x = true ∨ X.env.scope.names.lookup x = some .local := by first | exact .inl rfl | exact .inr rfl | assumption) :
    DS X c (.Assign [.Name x pos'] e pos) (gSet i f) := by
  refine ⟨PS.imp (ps_set hN hi hx h.pe hs hf) fun Dn σ H ⟨I, M, ρ, e, q⟩ => ?_⟩
  exact ⟨I, M, ρ, e, q.bind.mono fun d hd v H' M' k e' r => hd _ H' M' k.m (e'.set r)⟩
/-- x = [..], and x is changed later -/
def gOwn (i : Nat) (f : Env B → R (List D)) : GS B := fun ρ => (f ρ).bind fun d => .ok (.nx, ρ.set i (.own d))
theorem own_nx {Dn : Ends} {i : Nat} {ds : List D} {M0 H0 : Hp} (e0 : EnvR c.K I M0 H0 σ ρ) (hd : PostS c I M0 Dn (.nx, ρ.set i (.own ds))) {l : Addr} {vs : List V} (k : Step I.b M0 H0 M H) (e : EnvR c.K I M H σ ρ) (hl : H l = some (.lst vs)) (ml : M l = none) (nl : H0 l = none) (r : Reps c.K M vs ds) : Dn.nx (σ.set i (some (.ref l))) H :=
  hd _ H M k.m (e.setOwn hl ml (e0.ent.free nl) r fun j es _ hj => e0.ownThere hj nl)
theorem ds_own {i : Nat} {x : Str} {e : Expr} {f : Env B → R (List D)} {pos' : Pos} (hN : X.N.Nodup) (hi : X.N[i]? = some x) (hx : Loc X.env.scope x) (h : DL X c e f) (hs : swapsWith e (some (.Name x pos')) pos.line X.env = pure false := by rfl) (hf : X.fn x = true ∨ X.env.scope.names.lookup x = some .local := by first | exact .inl rfl | exact .inr rfl | assumption) :
    DS X c (.Assign [.Name x pos'] e pos) (gOwn i f) := by
  refine ⟨PS.imp (ps_set hN hi hx h.pe hs hf) fun Dn σ H ⟨I, M, ρ, e, q⟩ => ?_⟩
  exact ⟨I, M, ρ, e, q.bind.mono fun d hd l vs H' M' k e' hl ml nl r => own_nx e hd k e' hl ml nl r⟩
/-- y = [.. for ..] on one line -/
theorem ds_lcOwn {i : Nat} {st : Stmt} {f : Env B → R (List D)} (h : PS X st (tAsg (tDL c f) (L2.gName i))) : DS X c st (gOwn i f) := by
  refine ⟨PS.imp h fun Dn σ H ⟨I, M, ρ, e, q⟩ => ?_⟩
  exact ⟨I, M, ρ, e, q.bind.mono fun d hd l vs H' M' k e' hl ml nl r => own_nx e hd k e' hl ml nl r⟩
theorem ds_lcSet {i : Nat} {st : Stmt} {f : Env B → R (List D)} (h : PS X st (tAsg (tDL c f) (L2.gName i))) : DS X c st (gSet i (eL f)) := by
  refine ⟨PS.imp h fun Dn σ H ⟨I, M, ρ, e, q⟩ => ?_⟩
  refine ⟨I, M, ρ, e, q.bind.bind.mono fun ds hx l vs H1 M1 k1 e1 hl ml nl r => ?_⟩
  have il : I.H l = none := e.ent.free nl
  have e2 := e1.adopt (o := .lst vs) hl rfl ml il fun j es hj => fun z => e.ownThere hj nl z
  exact hx _ H1 _ (k1.m.trans (upd_same_of ml)) (e2.set (.newL ml r))
def gTgt (f : Env B → R D) (t : ETg B) : GS B := fun ρ => (f ρ).bind fun d => (noE (t d ρ)).bind fun ρ' => .ok (.nx, ρ')
theorem ds_tgt {tg e : Expr} {f : Env B → R D} {is : List Nat} {t : ETg B} (hK : c.K = X.K) (h : DE X c e f) (hg : DG X tg is t) (hs : swapsWithSole [tg] e pos.line X.env = pure false := by rfl) (hw : swappedStores [tg] e X.env = pure none := by rfl)
    (h1 : (assignEach [tg] X.env).map (·.2) = [assign tg X.env] := by rfl) : DS X c (.Assign [tg] e pos) (gTgt f t) := by
  refine ⟨PS.imp (ps_asg h.pe hg.pg hs hw h1) fun Dn σ H ⟨I, M, ρ, e, q⟩ => ?_⟩
  refine ⟨I, M, ρ, e, q.bind.mono fun d hd v H' M' k e' r => ?_⟩
  obtain ⟨ρ', hρ, hp⟩ := hd.bind.noE
  exact ⟨I, M', ρ, d, ρ', hK ▸ e', hK ▸ r, hρ, fun σ' e2 _ => hp σ' H' M' k.m (hK ▸ e2)⟩
/-- a name's own list is changed -/
theorem EnvR.updOwn {i : Nat} {l : Addr} {vs vs' : List V} {ds ds' : List D} (e : EnvR K I M H σ ρ) (h : ρ[i]? = some (.own ds)) (a : σ[i]? = some (some (.ref l))) (hl : H l = some (.lst vs)) (ml : M l = none) (il : I.H l = none) (r : Reps K M vs' ds') :
    EnvR K I M (upd H l (.lst vs')) σ (ρ.set i (.own ds')) := by
  have eσ : σ.set i (some (.ref l)) = σ := by
    apply List.ext_getElem?
    intro j
    by_cases hj : i = j
    · subst hj
      rw [List.getElem?_set_self (List.getElem?_eq_some_iff.mp a).1, a]
    · rw [List.getElem?_set_ne hj]
  have e0 : EnvR K I M H (σ.set i (some (.ref l))) (ρ.set i .no) := e.setNo
  rw [eσ] at e0
  have nn : ∀ (j : Nat) (es : List D), i ≠ j → (ρ.set i .no)[j]? = some (.own es) → σ[j]? ≠ some (some (.ref l)) := fun j es hj h1 h2 => by
    rw [List.getElem?_set_ne hj] at h1
    exact e.apart i j ds es hj h h1 (a.trans h2.symm)
  have e1 : EnvR K I M (upd H l (.lst vs')) σ (ρ.set i .no) := by
    refine ⟨e0.len, fun b u q => ?_, e0.msub, fun b u q => ?_, e0.mnew, fun j s hj => ?_, e0.apart⟩
    · by_cases z : b = l
      · subst z; rw [il] at q; cases q
      · rw [upd_ne z]; exact e0.ent b u q
    · have z : b ≠ l := fun z => by subst z; rw [ml] at q; cases q
      rw [upd_ne z]; exact e0.mok b u q
    · have q := e0.slots j s hj
      cases s with
      | no => trivial
      | val d => exact q
      | own es =>
        obtain ⟨l', ws, b1, b2, b3, b4, b5⟩ := q
        have nl : l' ≠ l := fun z => by
          subst z
          by_cases hij : i = j
          · subst hij
            by_cases hl' : i < ρ.length
            · rw [List.getElem?_set_self hl'] at hj; cases hj
            · rw [List.getElem?_eq_none (by rw [List.length_set]; omega)] at hj; cases hj
          · exact nn j es hij hj b1
        exact ⟨l', ws, b1, by rw [upd_ne nl]; exact b2, b3, b4, b5⟩
      | obj z =>
        obtain ⟨v, b1, b2⟩ := q
        refine ⟨v, b1, B.mono _ _ _ _ _ _ _ b2 (Same.refl _) fun x o q ni => ?_⟩
        have nl : x ≠ l := fun z => by subst z; rw [hl] at q; cases q; cases ni
        rw [upd_ne nl]; exact q
  have e2 := e1.setOwn (i := i) upd_same ml il r nn
  rw [eσ, List.set_set] at e2
  exact e2
def gApp (i : Nat) (f : Env B → R D) : GS B := fun ρ => match ρ[i]? with
  | some (.own ds) => (f ρ).bind fun d => if ds.length < 100000 then .ok (.nx, ρ.set i (.own (ds ++ [d]))) else .stuck
  | _ => .stuck
theorem lt_line5 {n : Nat} (h : n < 100000) : n < sizeLine := Nat.lt_trans h (by decide)
theorem tyV_lst {K : PySem.W.Frag} {H : Hp} {l : Addr} {vs : List V} (h : H l = some (.lst vs)) : tyV K "list" (.ref l) H := .inl ⟨rfl, _, SqL.of h⟩
theorem ds_app {i : Nat} {x : Str} {e : Expr} {f : Env B → R D} {p apos cpos : Pos} (hN : X.N[i]? = some x) (hv : Vis X.env.scope x) (h : DE X c e f) (hd : (x == ("__debug__" : Str)) = false := by decide) (hcd : (x == ("__classdict__" : Str)) = false := by decide)
    (hs : swapsWith (.Call (.Attribute (.Name x p) "append" apos) [e] [] cpos) none pos.line X.env = pure false := by rfl)
    (he : starEach [e] X.env = (false, eval e X.env) :: starEach [] X.env := by rfl)
    (hm : ∀ {ta : TE} {t : TA}, PE X (.Name x p) ta → PA X [e] t → PE X (.Call (.Attribute (.Name x p) "append" apos) [e] [] cpos) (tBM X.K "list" rAppend ta t) := by intro _ _ h1 h2; exact pe_bm PySem.F.plainAttrs_list PySem.F.slot_list_append PySem.F.type_list_append mt_append h1 h2) :
    DS X c (.Expr (.Call (.Attribute (.Name x p) "append" apos) [e] [] cpos) pos) (gApp i f) := by
  refine ⟨PS.imp (ps_expr (hm (pe_var hN hv hd hcd) (pa_cons h.pe pa_nil he)) hs) fun Dn σ H ⟨I, M, ρ, e, q⟩ => ?_⟩
  unfold gApp at q
  split at q
  · rename_i ds hi
    obtain ⟨l, vs, a, hl, ml, il, r⟩ := e.slots i _ hi
    refine ⟨_, a, tyV_lst hl, ?_⟩
    refine ⟨I, M, ρ, e, q.bind.mono fun d hd v H' M' k e' rd => ?_⟩
    split at hd
    · rename_i hlen
      obtain ⟨l', vs', a', hl', ml', il', r'⟩ := e'.slots i _ hi
      rw [a] at a'
      cases a'
      refine ⟨l, vs', v, rfl, rfl, hl', ?_, ?_⟩
      · rw [r'.length]; exact lt_line5 hlen
      · exact hd σ _ M' k.m (e'.updOwn hi a hl' ml' il' (r'.append (.cons rd .nil)))
    · exact hd.elim
  · exact q.elim
def gExt (i : Nat) (f : Env B → R D) : GS B := fun ρ => match ρ[i]? with
  | some (.own ds) => (f ρ).bind fun d => match d with
    | .list es => if ds.length + es.length ≤ 100000 then .ok (.nx, ρ.set i (.own (ds ++ es))) else .stuck
    | _ => .stuck
  | _ => .stuck
theorem ds_ext {i : Nat} {x : Str} {e : Expr} {f : Env B → R D} {p apos cpos : Pos} (hN : X.N[i]? = some x) (hv : Vis X.env.scope x) (h : DE X c e f) (hd : (x == ("__debug__" : Str)) = false := by decide) (hcd : (x == ("__classdict__" : Str)) = false := by decide)
    (hs : swapsWith (.Call (.Attribute (.Name x p) "extend" apos) [e] [] cpos) none pos.line X.env = pure false := by rfl)
    (he : starEach [e] X.env = (false, eval e X.env) :: starEach [] X.env := by rfl)
    (hm : ∀ {ta : TE} {t : TA}, PE X (.Name x p) ta → PA X [e] t → PE X (.Call (.Attribute (.Name x p) "extend" apos) [e] [] cpos) (tBM X.K "list" rExtend ta t) := by intro _ _ h1 h2; exact pe_bm PySem.F.plainAttrs_list PySem.F.slot_list_extend PySem.F.type_list_extend mt_extend h1 h2) :
    DS X c (.Expr (.Call (.Attribute (.Name x p) "extend" apos) [e] [] cpos) pos) (gExt i f) := by
  refine ⟨PS.imp (ps_expr (hm (pe_var hN hv hd hcd) (pa_cons h.pe pa_nil he)) hs) fun Dn σ H ⟨I, M, ρ, e, q⟩ => ?_⟩
  unfold gExt at q
  split at q
  · rename_i ds hi
    obtain ⟨l, vs, a, hl, ml, il, r⟩ := e.slots i _ hi
    refine ⟨_, a, tyV_lst hl, ?_⟩
    refine ⟨I, M, ρ, e, q.bind.mono fun d hd v H' M' k e' rd => ?_⟩
    split at hd
    · rename_i es
      split at hd
      · rename_i hlen
        obtain ⟨l', vs', a', hl', ml', il', r'⟩ := e'.slots i _ hi
        rw [a] at a'
        cases a'
        cases rd with
        | lst hb rb =>
          refine ⟨l, _, vs', _, rfl, rfl, hl', e'.mok.same _ _ hb, ?_, ?_⟩
          · rw [r'.length, rb.length]; exact le_line5 hlen
          · exact hd σ _ M' k.m (e'.updOwn hi a hl' ml' il' (r'.append rb))
      · exact hd.elim
    · exact hd.elim
  · exact q.elim
/-- x[j] = e, x a name's own list -/
def gPut (i : Nat) (fi fv : Env B → R D) : GS B := fun ρ => (fv ρ).bind fun d => match ρ[i]? with
  | some (.own ds) => (fi ρ).bind fun j => match j with
    | .int j => match ixN ds.length j with
      | some n => .ok (.nx, ρ.set i (.own (ds.set n d)))
      | none => .stuck
    | _ => .stuck
  | _ => .stuck
theorem ds_put {i : Nat} {x : Str} {ei ev : Expr} {fi fv : Env B → R D} {p spos : Pos} (hN : X.N[i]? = some x) (hv : Vis X.env.scope x) (hi : DE X c ei fi) (h : DE X c ev fv) (hd : (x == ("__debug__" : Str)) = false := by decide) (hcd : (x == ("__classdict__" : Str)) = false := by decide)
    (ha : ∀ v, assign (.Subscript (.Name x p) ei spos) X.env v = (do
      let ov ← holding [v] (eval (.Name x p) X.env)
      let iv ← holding [v, ov] (eval ei X.env)
      standAt spos
      holding [v, ov, iv] (setItem ov iv v)
      release [v, ov, iv] []) := by intro _; rfl)
    (hs : swapsWithSole [.Subscript (.Name x p) ei spos] ev pos.line X.env = pure false := by rfl) (hw : swappedStores [.Subscript (.Name x p) ei spos] ev X.env = pure none := by rfl)
    (h1 : (assignEach [.Subscript (.Name x p) ei spos] X.env).map (·.2) = [assign (.Subscript (.Name x p) ei spos) X.env] := by rfl) :
    DS X c (.Assign [.Subscript (.Name x p) ei spos] ev pos) (gPut i fi fv) := by
  refine ⟨PS.imp (ps_asg h.pe (pg_sub (pe_var hN hv hd hcd) hi.pe set_list ha) hs hw h1) fun Dn σ H ⟨I, M, ρ, e, q⟩ => ?_⟩
  refine ⟨I, M, ρ, e, q.bind.mono fun d hd v H' M' k e' rd => ?_⟩
  split at hd
  · rename_i ds hi'
    obtain ⟨l, vs, a, hl, ml, il, r⟩ := e'.slots i _ hi'
    refine ⟨_, a, I, M', ρ, e', hd.bind.mono fun j hj u H2 M2 k2 e2 ru => ?_⟩
    split at hj
    · rename_i j
      split at hj
      · rename_i n hn
        obtain ⟨l', vs', a', hl', ml', il', r'⟩ := e2.slots i _ hi'
        rw [a] at a'
        cases a'
        cases ru
        refine ⟨l, vs', j, n, rfl, rfl, hl', by rw [r'.length]; exact hn, ?_⟩
        exact hj σ _ M2 (k.m.trans k2.m) (e2.updOwn hi' a hl' ml' il' (Reps.set (rd.same k2.m) n r'))
      · exact hj.elim
    · exact hj.elim
  · exact hd.elim
/-- a.append(b.pop(j)), both own -/
def gAppPop (i b : Nat) (fj : Env B → R D) : GS B := fun ρ => match ρ[i]?, ρ[b]? with
  | some (.own ds), some (.own es) => if i = b then .stuck else (fj ρ).bind fun j => match j with
    | .int j => if -1000000 ≤ j ∧ j ≤ 1000000 then match seqIndex? j es.length with
      | some n => match es[n]? with
        | some y => if ds.length < 100000 then .ok (.nx, (ρ.set b (.own (es.eraseIdx n))).set i (.own (ds ++ [y]))) else .stuck
        | none => .stuck
      | none => .stuck
      else .stuck
    | _ => .stuck
  | _, _ => .stuck
theorem ds_appPop {i b : Nat} {x y : Str} {ej : Expr} {fj : Env B → R D} {p apos cpos p2 apos2 cpos2 : Pos} (hN : X.N[i]? = some x) (hv : Vis X.env.scope x) (hN2 : X.N[b]? = some y) (hv2 : Vis X.env.scope y) (h : DE X c ej fj)
    (hd : (x == ("__debug__" : Str)) = false := by decide) (hcd : (x == ("__classdict__" : Str)) = false := by decide) (hd2 : (y == ("__debug__" : Str)) = false := by decide) (hcd2 : (y == ("__classdict__" : Str)) = false := by decide)
    (hs : swapsWith (.Call (.Attribute (.Name x p) "append" apos) [.Call (.Attribute (.Name y p2) "pop" apos2) [ej] [] cpos2] [] cpos) none pos.line X.env = pure false := by rfl)
    (he : starEach [.Call (.Attribute (.Name y p2) "pop" apos2) [ej] [] cpos2] X.env = (false, eval (.Call (.Attribute (.Name y p2) "pop" apos2) [ej] [] cpos2) X.env) :: starEach [] X.env := by rfl)
    (he2 : starEach [ej] X.env = (false, eval ej X.env) :: starEach [] X.env := by rfl)
    (hm : ∀ {e : Expr} {ta : TE} {t : TA}, PE X (.Name x p) ta → PA X [.Call (.Attribute (.Name y p2) "pop" apos2) [ej] [] cpos2] t → PE X (.Call (.Attribute (.Name x p) "append" apos) [.Call (.Attribute (.Name y p2) "pop" apos2) [ej] [] cpos2] [] cpos) (tBM X.K "list" rAppend ta t) := by intro _ _ _ h1 h2; exact pe_bm PySem.F.plainAttrs_list PySem.F.slot_list_append PySem.F.type_list_append mt_append h1 h2)
    (hm2 : ∀ {ta : TE} {t : TA}, PE X (.Name y p2) ta → PA X [ej] t → PE X (.Call (.Attribute (.Name y p2) "pop" apos2) [ej] [] cpos2) (tBM X.K "list" rPopAt ta t) := by intro _ _ h1 h2; exact pe_bm PySem.F.plainAttrs_list PySem.F.slot_list_pop PySem.F.type_list_pop mt_popAt h1 h2) :
    DS X c (.Expr (.Call (.Attribute (.Name x p) "append" apos) [.Call (.Attribute (.Name y p2) "pop" apos2) [ej] [] cpos2] [] cpos) pos) (gAppPop i b fj) := by
  refine ⟨PS.imp (ps_expr (hm (e := ej) (pe_var hN hv hd hcd) (pa_cons (hm2 (pe_var hN2 hv2 hd2 hcd2) (pa_cons h.pe pa_nil he2)) pa_nil he)) hs) fun Dn σ H ⟨I, M, ρ, e, q⟩ => ?_⟩
  unfold gAppPop at q
  split at q
  · rename_i ds es hi hb
    split at q
    · exact q.elim
    rename_i hib
    obtain ⟨l, vs, a, hl, ml, il, r⟩ := e.slots i _ hi
    obtain ⟨l2, ws, a2, hl2, ml2, il2, r2⟩ := e.slots b _ hb
    refine ⟨_, a, tyV_lst hl, _, a2, tyV_lst hl2, ?_⟩
    refine ⟨I, M, ρ, e, q.bind.mono fun j hj u H2 M2 k2 e2 ru => ?_⟩
    split at hj
    · rename_i j
      split at hj
      · rename_i hjb
        split at hj
        · rename_i n hn
          split at hj
          · rename_i y hy
            split at hj
            · rename_i hlen
              obtain ⟨l', vs', a', hl', ml', il', r'⟩ := e2.slots i _ hi
              rw [a] at a'; cases a'
              obtain ⟨l3, ws', a3, hl3, ml3, il3, r3⟩ := e2.slots b _ hb
              rw [a2] at a3; cases a3
              cases ru
              obtain ⟨v, hv, rv⟩ := r3.get hy
              refine ⟨l2, ws', j, n, v, rfl, rfl, hl3, by omega, by omega, by rw [r3.length]; exact hn, hv, ?_⟩
              have e4 := e2.updOwn hb a2 hl3 ml3 il3 (r3.erase n)
              have hi4 : (ρ.set b (.own (es.eraseIdx n)))[i]? = some (.own ds) := by rw [List.getElem?_set_ne (fun z => hib z.symm)]; exact hi
              have nl : l ≠ l2 := fun z => by subst z; exact e2.apart i b ds es hib hi hb (a.trans a2.symm)
              have hl4 : upd H2 l2 (.lst (ws'.eraseIdx n)) l = some (.lst vs') := by rw [upd_ne nl]; exact hl'
              refine ⟨l, vs', v, rfl, rfl, hl4, ?_, ?_⟩
              · rw [r'.length]; exact lt_line5 hlen
              · exact hj σ _ M2 k2.m (e4.updOwn hi4 a hl4 ml' il' (r'.append (.cons rv .nil)))
            · exact hj.elim
          · exact hj.elim
        · exact hj.elim
      · exact hj.elim
    · exact hj.elim
  · exact q.elim

/-! ### own lists read -/
def gFrz (i : Nat) (g : GS B) : GS B := fun ρ => match ρ[i]? with
  | some (.own ds) => g (ρ.set i (.val (.list ds)))
  | _ => .stuck
theorem dss_frz {sts : List Stmt} {g : GS B} (i : Nat) (h : DSs X c sts g) : DSs X c sts (gFrz i g) := by
  refine ⟨PSs.imp h.pss fun Dn σ H ⟨I, M, ρ, e, q⟩ => ?_⟩
  unfold gFrz at q
  split at q
  · rename_i ds hi
    obtain ⟨l, vs, a, hl, ml, il, r, e2⟩ := e.freeze hi
    exact ⟨I, _, _, e2, RD.mono q fun r h => h.same (upd_same_of ml)⟩
  · exact q.elim
def scal1 (d : D) : R D := match d with
  | .none => .ok d
  | .bool _ => .ok d
  | .int _ => .ok d
  | .str _ => .ok d
  | _ => .stuck
def noObjs (ρ : Env B) : Bool := ρ.all fun s => match s with
  | .obj _ => false
  | _ => true
def eBor (i : Nat) (f : Env B → R D) : Env B → R D := fun ρ => match ρ[i]? with
  | some (.own ds) => if noObjs ρ = true then (f (ρ.set i (.val (.list ds)))).bind scal1 else .stuck
  | _ => .stuck
def tBor (i : Nat) (f : Env B → R Bool) : Env B → R Bool := fun ρ => match ρ[i]? with
  | some (.own ds) => if noObjs ρ = true then f (ρ.set i (.val (.list ds))) else .stuck
  | _ => .stuck
theorem Keep.at' {b : Bool} {H H' : Hp} (x : Keep b H H') {a : Addr} {o : HO} (h : H a = some o) (n : imm o = true) : H' a = some o := x.at h (by cases o <;> first | rfl | cases n)
theorem EnvR.kept {b : Bool} (e : EnvR K I M H σ ρ) (k : Keep b H H') (hb : b = I.b) (no : noObjs ρ = true) : EnvR K I M H' σ ρ where
  len := e.len
  ent := e.ent.trans (hb ▸ k)
  msub := e.msub
  mok := fun a o h => ⟨k.at' (e.mok a o h).1 (e.mok a o h).2, (e.mok a o h).2⟩
  mnew := e.mnew
  slots := fun j s h => by
    have q := e.slots j s h
    cases s with
    | no => trivial
    | val d => exact q
    | own ds => obtain ⟨l, vs, a, hl, ml, il, r⟩ := q; exact ⟨l, vs, a, k.at hl rfl, ml, il, r⟩
    | obj z =>
      have := List.all_eq_true.mp no _ (List.mem_of_getElem? h)
      cases this
  apart := e.apart
theorem Step.keep {b : Bool} {M M2 H M' H' : Hp} (x : Step b M2 H M' H') : Step b M H M H' := ⟨x.k, Same.refl _, fun a o h n => by rw [h] at n; cases n⟩
theorem de_bor {e : Expr} {f : Env B → R D} (i : Nat) (h : DE X c e f) : DE X c e (eBor i f) := by
  refine ⟨PE.imp h.pe fun σ H Q ⟨I, M, ρ, e, q⟩ => ?_⟩
  unfold eBor at q
  split at q
  · rename_i ds hi
    split at q
    · rename_i no
      obtain ⟨l, vs, a, hl, ml, il, r, e2⟩ := e.freeze hi
      refine ⟨I, _, _, e2, q.bind.mono fun d hd v H' M' k e' rd => ?_⟩
      have e3 := e.kept k.k rfl no
      unfold scal1 at hd
      split at hd
      · cases rd; exact hd _ H' M k.keep e3 .non
      · cases rd; exact hd _ H' M k.keep e3 (.bl _)
      · cases rd; exact hd _ H' M k.keep e3 (.int _)
      · cases rd; exact hd _ H' M k.keep e3 (.str _)
      · exact hd.elim
    · exact q.elim
  · exact q.elim
theorem dt_bor {e : Expr} {f : Env B → R Bool} (i : Nat) (h : DT X c e f) : DT X c e (tBor i f) := by
  refine ⟨PT.imp h.pt fun σ H Q ⟨I, M, ρ, e, q⟩ => ?_⟩
  unfold tBor at q
  split at q
  · rename_i ds hi
    split at q
    · rename_i no
      obtain ⟨l, vs, a, hl, ml, il, r, e2⟩ := e.freeze hi
      exact ⟨I, _, _, e2, RD.mono q fun d hd H' M' k e' => hd H' M k.keep (e.kept k.k rfl no)⟩
    · exact q.elim
  · exact q.elim

/-! ### loops -/
def loopF (t : ETg B) (g : GS B) : List D → GS B
  | [], ρ => .ok (.nx, ρ)
  | d :: r, ρ => (noE (t d ρ)).bind fun ρ1 => (g ρ1).bind fun x => match x with
    | (.nx, ρ2) => loopF t g r ρ2
    | (.ct, ρ2) => loopF t g r ρ2
    | (.bk, ρ2) => .ok (.nx, ρ2)
    | (.rt v, ρ2) => .ok (.rt v, ρ2)
    | (.rtL v, ρ2) => .ok (.rtL v, ρ2)
def gFor (fi : Env B → R (List D)) (t : ETg B) (g : GS B) : GS B := fun ρ => (fi ρ).bind fun items => loopF t g items ρ
theorem ds_for {tg iter : Expr} {body : List Stmt} {fi : Env B → R (List D)} {is : List Nat} {t : ETg B} {g : GS B} {k : Nat} (G : GoodS X c k) (hi : DI X c tg iter fi) (hg : DG X tg is t) (hb : DSs X c body g)
    (hs : ∀ x, foldedSetIterable iter X.env x = pure x := by intro _; rfl) : DS X c (.For tg iter body [] pos) (gFor fi t g) := by
  refine ⟨PS.imp (ps_for G.own G.calm hi.pi hg.pg hb.pss hs) fun Dn σ H ⟨I, M, ρ, e, q⟩ => ?_⟩
  refine ⟨I, M, ρ, e, q.bind.mono fun items hx J H1 M1 k1 e1 wj => ?_⟩
  refine ⟨fun i m σ H => m = items.length - i ∧ i ≤ items.length ∧ ∃ M ρ, Same M1 M ∧ EnvR c.K I M H σ ρ ∧ RD c I (loopF t g (items.drop i) ρ) (PostS c I M1 Dn), ⟨items.length, by simp, Nat.zero_le _, M1, ρ, Same.refl _, e1, by rw [List.drop_zero]; exact RD.mono hx fun r h => h.same k1.m⟩, ?_⟩
  rintro i m σ2 H2 ⟨rfl, hi', M2, ρ2, s2, e2, h2⟩
  by_cases hlt : i < items.length
  · refine .inr ?_
    have ed : items[i]? = some items[i] := by simp [hlt]
    obtain ⟨go, yl⟩ := wj.go i H2 M2 items[i] e2.mok s2 ed
    rw [List.drop_eq_getElem_cons hlt] at h2
    unfold loopF at h2
    obtain ⟨ρ3, hρ3, h3⟩ := h2.bind.noE
    refine ⟨go, fun σ' H' => ∃ M ρ, Same M1 M ∧ EnvR c.K I M H' σ' ρ ∧ RD c I (loopF t g (items.drop (i + 1)) ρ) (PostS c I M1 Dn), fun σ' H' h' => ⟨items.length - (i + 1), by omega, rfl, hlt, h'⟩, fun x H' y => ?_⟩
    obtain ⟨M3, g3, r3⟩ := yl x H' y
    have e3 := e2.grow g3
    refine ⟨I, M3, ρ2, items[i], ρ3, G.K ▸ e3, G.K ▸ r3, hρ3, fun σ4 e4 _ => ?_⟩
    have e4' : EnvR c.K I M3 H' σ4 ρ3 := G.K ▸ e4
    have s3 := s2.trans g3.m
    refine ⟨I, M3, ρ3, e4', h3.bind.mono fun r hr => ?_⟩
    obtain ⟨fl, ρ5⟩ := r
    cases fl with
    | nx => exact fun σ5 H5 M5 s5 e5 => ⟨M5, ρ5, s3.trans s5, e5, hr⟩
    | ct => exact fun σ5 H5 M5 s5 e5 => ⟨M5, ρ5, s3.trans s5, e5, hr⟩
    | bk => exact fun σ5 H5 M5 s5 e5 => (show PostS c I M1 Dn (.nx, ρ5) from hr) σ5 H5 M5 (s3.trans s5) e5
    | rt v => exact (show PostS c I M1 Dn (.rt v, ρ5) from hr).same s3
    | rtL v => exact (show PostS c I M1 Dn (.rtL v, ρ5) from hr).same s3
  · have ei : i = items.length := by omega
    subst ei
    rw [List.drop_length] at h2
    exact .inl ⟨wj.stop H2 M2 e2.mok s2, (show PostS c I M1 Dn (.nx, ρ2) from h2) σ2 H2 M2 s2 e2⟩
def whileF (t : Env B → R Bool) (g : GS B) : Nat → GS B
  | 0, _ => .stuck
  | n + 1, ρ => (t ρ).bind fun b => if b = true then (g ρ).bind fun x => (match x with
    | (.nx, ρ2) => whileF t g n ρ2
    | (.ct, ρ2) => whileF t g n ρ2
    | (.bk, ρ2) => .ok (.nx, ρ2)
    | (.rt v, ρ2) => .ok (.rt v, ρ2)
    | (.rtL v, ρ2) => .ok (.rtL v, ρ2)) else .ok (.nx, ρ)
theorem ds_while {e : Expr} {body : List Stmt} {t : Env B → R Bool} {g : GS B} {k : Nat} (n : Nat) (G : GoodS X c k) (ht : DT X c e t) (hb : DSs X c body g) : DS X c (.While e body [] pos) (whileF t g n) := by
  refine ⟨PS.imp (ps_while G.own ht.pt hb.pss) fun Dn σ H ⟨I, M, ρ, e, q⟩ => ?_⟩
  refine ⟨fun m σ H => ∃ M' ρ, Same M M' ∧ EnvR c.K I M' H σ ρ ∧ RD c I (whileF t g m ρ) (PostS c I M Dn), ⟨n, M, ρ, Same.refl _, e, q⟩, ?_⟩
  rintro m σ2 H2 ⟨M2, ρ2, s2, e2, h2⟩
  cases m with
  | zero => exact h2.elim
  | succ m =>
    unfold whileF at h2
    refine ⟨I, M2, ρ2, e2, h2.bind.mono fun b hb' H3 M3 k3 e3 => ?_⟩
    have s3 := s2.trans k3.m
    cases b with
    | true =>
      rw [if_pos rfl] at hb'
      refine iteT ⟨fun σ' H' => ∃ M' ρ, Same M M' ∧ EnvR c.K I M' H' σ' ρ ∧ RD c I (whileF t g m ρ) (PostS c I M Dn), fun σ' H' h' => ⟨m, Nat.lt_succ_self _, h'⟩, ?_⟩
      refine ⟨I, M3, ρ2, e3, hb'.bind.mono fun r hr => ?_⟩
      obtain ⟨fl, ρ5⟩ := r
      cases fl with
      | nx => exact fun σ5 H5 M5 s5 e5 => ⟨M5, ρ5, s3.trans s5, e5, hr⟩
      | ct => exact fun σ5 H5 M5 s5 e5 => ⟨M5, ρ5, s3.trans s5, e5, hr⟩
      | bk => exact fun σ5 H5 M5 s5 e5 => (show PostS c I M Dn (.nx, ρ5) from hr) σ5 H5 M5 (s3.trans s5) e5
      | rt v => exact (show PostS c I M Dn (.rt v, ρ5) from hr).same s3
      | rtL v => exact (show PostS c I M Dn (.rtL v, ρ5) from hr).same s3
    | false =>
      rw [if_neg Bool.false_ne_true] at hb'
      refine iteF ?_
      exact (show PostS c I M Dn (.nx, ρ2) from hb') σ2 H3 M3 s3 e3

/-! ### raise -/
def gExc (n : Nat) : GS B := fun _ => .exc n
structure ExcF (X : Cx) (C : Addr) (x : Str) : Prop where
  g : X.mg x = some (.ref C)
  q : PySem.W.excIn X.K C [.type "ValueError", .type "Exception", .type "BaseException", .type "object"] "ValueError.__new__" = true
  kp : PySem.W.keepIn X.K (.ref C) = true
  sub : PySem.W.subIn X.K (.ref C) (.type "BaseException") = some true
  ty : PySem.W.typeIn X.K (.ref C) = some (.type "type")
theorem ds_raise {x m : Str} {j : Nat} {p p2 cpos : Pos} {n k : Nat} (G : GoodS X c k) (F : ExcF X (c.cA n) x) (hg : Gl X x := by rfl) (hdb : (x == ("__debug__" : Str)) = false := by decide) :
    DS X c (.Raise (some (.Call (.Name x p) [.Constant (.str m) j p2] [] cpos)) none pos) (gExc n) := by
  refine ⟨PS.imp (L2N.ps_raise G.calm G.takes (L2N.pmk_own PySem.F.excBase_ValueError F.q F.g F.kp (raises_own F.sub F.ty) hg hdb)) fun Dn σ H ⟨I, M, ρ, e, q⟩ => ?_⟩
  exact q H e.ent
end
end PL

set_option Elab.async false
set_option linter.all false
set_option maxRecDepth 100000
set_option maxHeartbeats 4000000
/-! defs: contracts, calls -/
namespace PL
open PySem PySem.Spec PyProof.Rows L2
section
variable {B : ObjB} {P : Program} {w : World} {K : PySem.W.Frag} {mg : Str → Option Value} {base : Heap} {cA : Nat → Addr}
/-- what a call over data promises -/
def RF {α : Type} (cA : Nat → Addr) (E : XK) (H : Hp) (r : R α) (Pp : α → Prop) : Prop := match r with
  | .ok a => Pp a
  | .exc n => ∀ H', Same H H' → E (.ref (cA n)) none H'
  | .stuck => False
def spD (K : PySem.W.Frag) (cA : Nat → Addr) (ar : Nat) (F : List D → R D) : Sp := fun vs H Q E => vs.length = ar ∧ ∃ M ds, MOk M H ∧ Reps K M vs ds ∧ RF cA E H (F ds) fun d => ∀ v H' M', Grow M H M' H' → Rep K M' v d → Q v H'
/-- .. where a fresh list comes back -/
def spL (K : PySem.W.Frag) (cA : Nat → Addr) (ar : Nat) (F : List D → R (List D)) : Sp := fun vs H Q E => vs.length = ar ∧ ∃ M ds, MOk M H ∧ Reps K M vs ds ∧ RF cA E H (F ds) fun xs => ∀ l ws H' M', Grow M H M' H' → H' l = some (.lst ws) → M' l = none → H l = none → Reps K M' ws xs → Q (.ref l) H'
structure DfS (P : Program) (w : World) (K : PySem.W.Frag) (mg : Str → Option Value) (base : Heap) (x : Str) (k ar : Nat) (sp : Sp) : Prop where
  ex : ∃ f fd ps, List.length (α := Str) ps = ar ∧ FnOk P w K mg base (L2N.CX P w) k f fd ps sp ∧ mg x = some (.ref f) ∧ PySem.W.keepIn K (.ref f) = true ∧ Binds K fd ps []
abbrev Df (P : Program) (w : World) (K : PySem.W.Frag) (mg : Str → Option Value) (base : Heap) (cA : Nat → Addr) (x : Str) (k ar : Nat) (F : List D → R D) : Prop := DfS P w K mg base x k ar (spD K cA ar F)
abbrev DfL (P : Program) (w : World) (K : PySem.W.Frag) (mg : Str → Option Value) (base : Heap) (cA : Nat → Addr) (x : Str) (k ar : Nat) (F : List D → R (List D)) : Prop := DfS P w K mg base x k ar (spL K cA ar F)
theorem DfS.imp {x : Str} {k ar : Nat} {sp sp' : Sp} (d : DfS P w K mg base x k ar sp) (h : ∀ vs H Q E, sp' vs H Q E → sp vs H Q E) : DfS P w K mg base x k ar sp' := by
  obtain ⟨f, fd, ps, h1, h2, h3, h4, h5⟩ := d.ex
  exact ⟨f, fd, ps, h1, h2.imp h, h3, h4, h5⟩
theorem DfS.mono {x : Str} {k j ar : Nat} {sp : Sp} (d : DfS P w K mg base x k ar sp) (h : k ≤ j) : DfS P w K mg base x j ar sp := by
  obtain ⟨f, fd, ps, h1, h2, h3, h4, h5⟩ := d.ex
  exact ⟨f, fd, ps, h1, h2.mono h, h3, h4, h5⟩
def listR (F : List D → R (List D)) : List D → R D := fun ds => (F ds).bind fun xs => .ok (.list xs)
theorem Grow.adopt {M H M' H' : Hp} (g : Grow M H M' H') {l : Addr} {o : HO} (hl : H' l = some o) (io : imm o = true) (ml : M' l = none) (nl : H l = none) : Grow M H (upd M' l o) H' where
  h := g.h
  m := g.m.trans (upd_same_of ml)
  ok := fun a u h => by
    by_cases z : a = l
    · subst z; rw [upd_same] at h; cases h; exact ⟨hl, io⟩
    · rw [upd_ne z] at h; exact g.ok a u h
  new := fun a u h n => by
    by_cases z : a = l
    · subst z; exact nl
    · rw [upd_ne z] at h; exact g.new a u h n
theorem DfS.toD {x : Str} {k ar : Nat} {F : List D → R (List D)} (d : DfL P w K mg base cA x k ar F) : Df P w K mg base cA x k ar (listR F) := d.imp fun vs H Q E ⟨h1, M, ds, h2, h3, h4⟩ => by
  refine ⟨h1, M, ds, h2, h3, ?_⟩
  unfold listR at h4
  cases hF : F ds with
  | ok xs =>
    rw [hF] at h4
    exact fun l ws H' M' g hl ml nl r => h4 _ H' _ (g.adopt hl rfl ml nl) (.newL ml r)
  | exc n => rw [hF] at h4; exact h4
  | stuck => rw [hF] at h4; exact h4.elim
/-- a function that says the same where it says anything -/
theorem DfS.of_eq {x : Str} {k ar : Nat} {F G : List D → R D} (d : Df P w K mg base cA x k ar F) (h : ∀ ds, G ds ≠ .stuck → F ds = G ds) : Df P w K mg base cA x k ar G := d.imp fun vs H Q E ⟨h1, M, ds, h2, h3, h4⟩ => by
  refine ⟨h1, M, ds, h2, h3, ?_⟩
  have ne : G ds ≠ .stuck := fun z => by rw [z] at h4; exact h4
  rw [h ds ne]
  exact h4
theorem DfS.of_eqL {x : Str} {k ar : Nat} {F G : List D → R (List D)} (d : DfL P w K mg base cA x k ar F) (h : ∀ ds, G ds ≠ .stuck → F ds = G ds) : DfL P w K mg base cA x k ar G := d.imp fun vs H Q E ⟨h1, M, ds, h2, h3, h4⟩ => by
  refine ⟨h1, M, ds, h2, h3, ?_⟩
  have ne : G ds ≠ .stuck := fun z => by rw [z] at h4; exact h4
  rw [h ds ne]
  exact h4

/-! ### calls -/
variable {X : Cx} {c : Ctx B} {pos : Pos}
def eCall (ar : Nat) (F : List D → R D) (f : Env B → R (List D)) : Env B → R D := fun ρ => (f ρ).bind fun ds => if ds.length = ar then F ds else .stuck
theorem de_call {x : Str} {e : Expr} {es : List Expr} {f : Env B → R (List D)} {k j ar : Nat} {F : List D → R D} {p : Pos} (G : Good X c k) (d : Df X.prog X.w X.K X.mg X.base c.cA x j ar F) (hj : j ≤ k) (ha : DA X c (e :: es) f) (hg : Gl X x := by rfl)
    (hdb : (x == ("__debug__" : Str)) = false := by decide) (he : starEach (e :: es) X.env = (false, eval e X.env) :: starEach es X.env := by rfl) (hpl : (backTo pos (starEach es X.env)).any (·.1) = false := by rfl) :
    DE X c (.Call (.Name x p) (e :: es) [] pos) (eCall ar F f) := by
  obtain ⟨fa, fd, ps, hl, hF, hm, hk, hb⟩ := d.ex
  refine ⟨PE.imp (pe_call hF (G.room.mono hj) hg hm hk hb .nil G.pass ha.pa hdb he hpl) fun σ H Q ⟨I, M, ρ, e, q⟩ => ?_⟩
  refine ⟨I, M, ρ, e, q.bind.mono fun ds hx vs H1 M1 k1 e1 r1 => ?_⟩
  split at hx
  · rename_i hlen
    rw [List.append_nil]
    refine ⟨by rw [r1.length]; exact hlen, M1, ds, e1.mok, G.K ▸ r1, ?_⟩
    cases hF : F ds with
    | ok a =>
      rw [hF] at hx
      exact fun v H' M' g r => hx v H' M' (k1.trans (.of g)) (e1.grow g) (G.K ▸ r)
    | exc n =>
      rw [hF] at hx
      exact fun H' s => hx H' (e1.ent.trans (.of s))
    | stuck => rw [hF] at hx; exact hx.elim
  · exact hx.elim
def lCall (ar : Nat) (F : List D → R (List D)) (f : Env B → R (List D)) : Env B → R (List D) := fun ρ => (f ρ).bind fun ds => if ds.length = ar then F ds else .stuck
theorem dl_call {x : Str} {e : Expr} {es : List Expr} {f : Env B → R (List D)} {k j ar : Nat} {F : List D → R (List D)} {p : Pos} (G : Good X c k) (d : DfL X.prog X.w X.K X.mg X.base c.cA x j ar F) (hj : j ≤ k) (ha : DA X c (e :: es) f) (hg : Gl X x := by rfl)
    (hdb : (x == ("__debug__" : Str)) = false := by decide) (he : starEach (e :: es) X.env = (false, eval e X.env) :: starEach es X.env := by rfl) (hpl : (backTo pos (starEach es X.env)).any (·.1) = false := by rfl) :
    DL X c (.Call (.Name x p) (e :: es) [] pos) (lCall ar F f) := by
  obtain ⟨fa, fd, ps, hl, hF, hm, hk, hb⟩ := d.ex
  refine ⟨PE.imp (pe_call hF (G.room.mono hj) hg hm hk hb .nil G.pass ha.pa hdb he hpl) fun σ H Q ⟨I, M, ρ, e, q⟩ => ?_⟩
  refine ⟨I, M, ρ, e, q.bind.mono fun ds hx vs H1 M1 k1 e1 r1 => ?_⟩
  split at hx
  · rename_i hlen
    rw [List.append_nil]
    refine ⟨by rw [r1.length]; exact hlen, M1, ds, e1.mok, G.K ▸ r1, ?_⟩
    cases hF : F ds with
    | ok a =>
      rw [hF] at hx
      exact fun l ws H' M' g hl ml nl r => hx l ws H' M' (k1.trans (.of g)) (e1.grow g) hl ml (k1.k.free nl) (G.K ▸ r)
    | exc n =>
      rw [hF] at hx
      exact fun H' s => hx H' (e1.ent.trans (.of s))
    | stuck => rw [hF] at hx; exact hx.elim
  · exact hx.elim

/-! ### a def keeps its promise -/
def startE (n : Nat) (ds : List D) : Env B := ds.map .val ++ List.replicate (n - ds.length) .no
theorem startE_env {K : PySem.W.Frag} {N : List Str} {M H : Hp} {vs : List V} {ds : List D} (k : MOk M H) (r : Reps K M vs ds) : EnvR K ⟨M, H, false⟩ M H (L2.start N vs) (startE (B := B) N.length ds) where
  len := by
    unfold L2.start startE
    simp only [List.length_append, List.length_map, List.length_replicate, r.length]
  ent := .refl
  msub := Same.refl _
  mok := k
  mnew := fun a o h n => by
    have n' : M a = none := n
    rw [h] at n'; cases n'
  slots := fun i s h => by
    unfold startE at h
    unfold L2.start
    by_cases hi : i < ds.length
    · rw [List.getElem?_append_left (by simpa using hi), List.getElem?_map] at h
      rw [List.getElem?_append_left (by rw [List.length_map, r.length]; exact hi), List.getElem?_map]
      cases hd : ds[i]? with
      | none => rw [hd] at h; cases h
      | some d =>
        rw [hd] at h
        cases h
        obtain ⟨v, hv, rv⟩ := r.get hd
        exact ⟨v, by rw [hv]; rfl, rv⟩
    · rw [List.getElem?_append_right (by simpa using hi), List.getElem?_replicate] at h
      split at h
      · cases h; trivial
      · cases h
  apart := fun i j ds' es hne h1 h2 => by
    unfold startE at h1
    by_cases hi : i < ds.length
    · rw [List.getElem?_append_left (by simpa using hi), List.getElem?_map] at h1
      cases hd : ds[i]? with
      | none => rw [hd] at h1; cases h1
      | some d => rw [hd] at h1; cases h1
    · rw [List.getElem?_append_right (by simpa using hi), List.getElem?_replicate] at h1
      split at h1
      · cases h1
      · cases h1
/-- what a body's run hands back -/
def endF (r : Fl × Env B) : R D := match r.1 with
  | .nx => .ok .none
  | .rt d => .ok d
  | .rtL ds => .ok (.list ds)
  | _ => .stuck
def endL (r : Fl × Env B) : R (List D) := match r.1 with
  | .rtL ds => .ok ds
  | _ => .stuck
def runF (n : Nat) (g : GS B) : List D → R D := fun ds => (g (startE n ds)).bind endF
def runL (n : Nat) (g : GS B) : List D → R (List D) := fun ds => (g (startE n ds)).bind endL
theorem EnvR.growth {K : PySem.W.Frag} {M0 H0 M H : Hp} {σ : L2.St} {ρ : Env B} (e : EnvR K ⟨M0, H0, false⟩ M H σ ρ) : Grow M0 H0 M H := ⟨e.ent.same, e.msub, e.mok, e.mnew⟩
abbrev bodyC (P : Program) (w : World) (K : PySem.W.Frag) (mg : Str → Option Value) (base : Heap) (N : List Str) (qual : Str) (scope : Scope) (f : Addr) (cd : Value) (A : Around) (outer : List PySem.Env) (s : Shared) (H : Hp) (E : XK) : Cx :=
  cxOf (L2N.CX P w) P w K mg base N qual scope f cd A outer s H E
theorem good_body {P : Program} {w : World} {K : PySem.W.Frag} {mg : Str → Option Value} {base : Heap} {N : List Str} {qual : Str} {scope : Scope} {f : Addr} {cd : Value} {A : Around} {outer : List PySem.Env} {s : Shared} {H : Hp} {E : XK} {k : Nat} (nd : N.Nodup) (hr : Room k (A.deeper (envOfC qual scope s.heap.objs.size f cd))) :
    GoodS (B := B) (bodyC P w K mg base N qual scope f cd A outer s H E) ⟨K, cA, E⟩ k where
  K := rfl
  nd := nd
  calm := rfl
  room := hr
  pass := L2N.passes_call (W := fun cls d _ H => E cls d H) (L2N.takes_of rfl rfl rfl rfl) fun _ _ _ _ h => h
  own := passes_of rfl
  takes := L2N.takes_of rfl rfl rfl rfl
theorem fnok_mk {x qual : Str} {params : Arguments} {body : List Stmt} {scope : Scope} {kws : List (Str × V)} {f : Addr} {fd : FuncData} {N ps : List Str} {k : Nat} {g : GS B} (FD : FunD K x qual params body scope [] kws f fd) (S : FnScope N ps scope)
    (hbody : ∀ (cdv : Value) (A : Around) (outer : List PySem.Env) (s : Shared) (H : Hp) (E : XK), GoodS (B := B) (bodyC P w K mg base N qual scope f cdv A outer s H E) ⟨K, cA, E⟩ k → DSs (bodyC P w K mg base N qual scope f cdv A outer s H E) ⟨K, cA, E⟩ body g) :
    FnOk P w K mg base (L2N.CX P w) (k + 1) f fd ps (spD K cA ps.length (runF N.length g)) := by
  refine FD.ok S (fun vs H Q E h => h.1) (fun cdv A outer s H vs Q E hr ⟨hl, M, ds, mk, r, h⟩ => ⟨_, (hbody cdv A outer s H E (good_body S.nd hr)).pss, ?_⟩)
  refine ⟨⟨M, H, false⟩, M, startE N.length ds, startE_env mk r, ?_⟩
  unfold runF at h
  cases hg : g (startE N.length ds) with
  | ok res =>
    rw [hg] at h
    obtain ⟨fl, ρ'⟩ := res
    cases fl with
    | nx => exact fun σ' H' M' s' e' => (show ∀ v H' M', Grow M H M' H' → Rep K M' v .none → Q v H' from h) _ H' M' e'.growth .non
    | bk => exact h.elim
    | ct => exact h.elim
    | rt d => exact fun v σ' H' M' s' e' r' => (show ∀ v H' M', Grow M H M' H' → Rep K M' v d → Q v H' from h) v H' M' e'.growth r'
    | rtL xs => exact fun l ws σ' H' M' s' e' hl ml il r' => (show ∀ v H' M', Grow M H M' H' → Rep K M' v (.list xs) → Q v H' from h) _ H' _ (e'.growth.adopt hl rfl ml il) (.newL ml r')
  | exc n =>
    rw [hg] at h
    exact fun H' k' => h H' k'.same
  | stuck => rw [hg] at h; exact h.elim
theorem df_mk {x qual : Str} {params : Arguments} {body : List Stmt} {scope : Scope} {kws : List (Str × V)} {f : Addr} {fd : FuncData} {N ps : List Str} {k : Nat} {g : GS B} (FD : FunD K x qual params body scope [] kws f fd) (S : FnScope N ps scope)
    (hb : Binds K fd ps []) (gx : mg x = some (.ref f))
    (hbody : ∀ (cdv : Value) (A : Around) (outer : List PySem.Env) (s : Shared) (H : Hp) (E : XK), GoodS (B := B) (bodyC P w K mg base N qual scope f cdv A outer s H E) ⟨K, cA, E⟩ k → DSs (bodyC P w K mg base N qual scope f cdv A outer s H E) ⟨K, cA, E⟩ body g) :
    Df P w K mg base cA x (k + 1) ps.length (runF N.length g) := ⟨f, fd, ps, rfl, fnok_mk FD S hbody, gx, FD.kp, hb⟩
theorem dfl_mk {x qual : Str} {params : Arguments} {body : List Stmt} {scope : Scope} {kws : List (Str × V)} {f : Addr} {fd : FuncData} {N ps : List Str} {k : Nat} {g : GS B} (FD : FunD K x qual params body scope [] kws f fd) (S : FnScope N ps scope)
    (hb : Binds K fd ps []) (gx : mg x = some (.ref f))
    (hbody : ∀ (cdv : Value) (A : Around) (outer : List PySem.Env) (s : Shared) (H : Hp) (E : XK), GoodS (B := B) (bodyC P w K mg base N qual scope f cdv A outer s H E) ⟨K, cA, E⟩ k → DSs (bodyC P w K mg base N qual scope f cdv A outer s H E) ⟨K, cA, E⟩ body g) :
    DfL P w K mg base cA x (k + 1) ps.length (runL N.length g) := by
  refine ⟨f, fd, ps, rfl, FD.ok S (fun vs H Q E h => h.1) (fun cdv A outer s H vs Q E hr ⟨hl, M, ds, mk, r, h⟩ => ⟨_, (hbody cdv A outer s H E (good_body S.nd hr)).pss, ?_⟩), gx, FD.kp, hb⟩
  refine ⟨⟨M, H, false⟩, M, startE N.length ds, startE_env mk r, ?_⟩
  unfold runL at h
  cases hg : g (startE N.length ds) with
  | ok res =>
    rw [hg] at h
    obtain ⟨fl, ρ'⟩ := res
    cases fl with
    | nx => exact h.elim
    | bk => exact h.elim
    | ct => exact h.elim
    | rt d => exact h.elim
    | rtL xs => exact fun l ws σ' H' M' s' e' hl ml il r' => (show ∀ l ws H' M', Grow M H M' H' → H' l = some (.lst ws) → M' l = none → H l = none → Reps K M' ws xs → Q (.ref l) H' from h) l ws H' M' e'.growth hl ml il r'
  | exc n =>
    rw [hg] at h
    exact fun H' k' => h H' k'.same
  | stuck => rw [hg] at h; exact h.elim
end
/-- the facts that a law's text gives -/
structure Facts (K : PySem.W.Frag) (mg : Str → Option Value) (fa : List He.Fa) (fn : List He.DefD) : Prop where
  says : He.SaysD fa fn K
  at_ : ∃ h : Heap, K.In h ∧ h.Ns mainGlobals mg
namespace Facts
variable {K : PySem.W.Frag} {mg : Str → Option Value} {fa : List He.Fa} {fn : List He.DefD} (T : Facts K mg fa fn)
include T
theorem glo (i : Nat) {x : Str} (h : fa[i]? = some (.glo x) := by rfl) : mg x = some (.ref (He.ga K x)) := by
  obtain ⟨hh, X, G⟩ := T.at_
  exact He.glo_ok X G (T.says.fact i h)
theorem free (i : Nat) {x : Str} (h : fa[i]? = some (.free x) := by rfl) : mg x = none := by
  obtain ⟨hh, X, G⟩ := T.at_
  exact He.free_ok X G (T.says.fact i h)
theorem int (i : Nat) {x : Str} {z : Int} (h : fa[i]? = some (.int x z) := by rfl) : ∃ t, mg x = some (.int z t) := by
  obtain ⟨hh, X, G⟩ := T.at_
  exact He.int_ok X G (T.says.fact i h)
theorem exc {X : Cx} (hX : X.K = K) (hm : X.mg = mg) (i j : Nat) {x : Str} (h : fa[i]? = some (.exc x) := by rfl) (h2 : fa[j]? = some (.glo x) := by rfl) : ExcF X (He.ga K x) x := by
  obtain ⟨a, b, c, d⟩ := He.exc_ok (T.says.fact i h)
  subst hX hm
  exact ⟨T.glo j h2, a, b, c, d⟩
end Facts
section
variable {B : ObjB} {X : Cx} {c : Ctx B} {pos : Pos}
theorem de_gint {x : Str} {z : Int} (h : ∃ t, X.mg x = some (.int z t)) (hg : Gl X x := by rfl) (hd : (x == ("__debug__" : Str)) = false := by decide) : DE X c (.Name x pos) (eC (.int z)) := by
  obtain ⟨t, h⟩ := h
  exact de_glob (v := .int z) (d := .int z) hg h ⟨t, rfl⟩ (fun _ => .int z) hd
end
end PL

set_option Elab.async false
set_option linter.all false
set_option maxRecDepth 100000
set_option maxHeartbeats 4000000
/-! sorted, sets of ints -/
namespace PL
open PySem PySem.Spec PyProof.Rows L2
/-! ### sorting by insertion -/
def insD {α : Type} (le : α → α → Bool) (x : α) : List α → List α
  | [] => [x]
  | y :: r => if le x y = true then x :: y :: r else y :: insD le x r
def isort {α : Type} (le : α → α → Bool) : List α → List α
  | [] => []
  | x :: r => insD le x (isort le r)
section
variable {α : Type} {le : α → α → Bool}
theorem insD_mem {x z : α} : ∀ {l : List α}, z ∈ insD le x l ↔ z = x ∨ z ∈ l
  | [] => by simp [insD]
  | y :: r => by
    unfold insD
    split
    · simp
    · rw [List.mem_cons, insD_mem, List.mem_cons]
      constructor
      · rintro (h | h | h)
        · exact .inr (.inl h)
        · exact .inl h
        · exact .inr (.inr h)
      · rintro (h | h | h)
        · exact .inr (.inl h)
        · exact .inl h
        · exact .inr (.inr h)
theorem insD_sorted (h : PySem.W.TotalLe le) {x : α} : ∀ {l : List α}, l.Pairwise (fun a b => le a b = true) → (insD le x l).Pairwise (fun a b => le a b = true)
  | [], _ => by simp [insD]
  | y :: r, p => by
    unfold insD
    obtain ⟨p1, p2⟩ := List.pairwise_cons.mp p
    split
    · rename_i hxy
      refine List.pairwise_cons.mpr ⟨fun z hz => ?_, p⟩
      rcases List.mem_cons.mp hz with rfl | hz
      · exact hxy
      · exact h.trans _ _ _ hxy (p1 z hz)
    · rename_i hxy
      refine List.pairwise_cons.mpr ⟨fun z hz => ?_, insD_sorted h p2⟩
      rcases insD_mem.mp hz with rfl | hz
      · exact (h.total y z).resolve_right hxy
      · exact p1 z hz
theorem insD_filter (h : PySem.W.TotalLe le) {x : α} (c : α) : ∀ {l : List α}, (insD le x l).filter (PySem.W.sameRank le c) = (x :: l).filter (PySem.W.sameRank le c)
  | [] => rfl
  | y :: r => by
    unfold insD
    split
    · rfl
    · rename_i hxy
      rw [List.filter_cons, insD_filter h c]
      have key : ¬ (PySem.W.sameRank le c x = true ∧ PySem.W.sameRank le c y = true) := by
        rintro ⟨a, b⟩
        have a' : (le c x && le x c) = true := a
        have b' : (le c y && le y c) = true := b
        rw [Bool.and_eq_true] at a' b'
        exact hxy (h.trans _ _ _ a'.2 b'.1)
      by_cases hx : PySem.W.sameRank le c x = true
      · have hy : ¬ PySem.W.sameRank le c y = true := fun z => key ⟨hx, z⟩
        simp [hx, hy]
      · by_cases hy : PySem.W.sameRank le c y = true <;> simp [hx, hy]
theorem isort_sorted (h : PySem.W.TotalLe le) : ∀ l : List α, (isort le l).Pairwise (fun a b => le a b = true)
  | [] => .nil
  | x :: r => insD_sorted h (isort_sorted h r)
theorem isort_filter (h : PySem.W.TotalLe le) (c : α) : ∀ l : List α, (isort le l).filter (PySem.W.sameRank le c) = l.filter (PySem.W.sameRank le c)
  | [] => rfl
  | x :: r => by
    unfold isort
    rw [insD_filter h, List.filter_cons, List.filter_cons, isort_filter h c r]
theorem isort_eq (h : PySem.W.TotalLe le) (l : List α) : l.mergeSort le = isort le l := (PySem.W.sort_unique h (isort_sorted h l) fun c => isort_filter h c l).symm
theorem isort_memi : ∀ {l : List α} {z : α}, z ∈ isort le l ↔ z ∈ l
  | [], z => by simp [isort]
  | x :: r, z => by unfold isort; rw [insD_mem, isort_memi, List.mem_cons]
theorem insD_length {x : α} : ∀ {l : List α}, (insD le x l).length = l.length + 1
  | [] => rfl
  | y :: r => by
    unfold insD
    split
    · rfl
    · rw [List.length_cons, insD_length]; rfl
theorem isort_length : ∀ {l : List α}, (isort le l).length = l.length
  | [] => rfl
  | x :: r => by unfold isort; rw [insD_length, isort_length]; rfl
end
abbrev leD : D → D → Bool := PySem.W.dataLe false id
theorem leD_total : PySem.W.TotalLe leD := PySem.W.sortLe_total _ _ _
def alikeB (ds : List D) : Bool := ds.all fun d => ds.all fun e => PySem.W.alike d e
def sortableB (ds : List D) : Bool := (ds.all fun d => match d with | .tuple (_ :: _) => true | _ => false) || (ds.all fun d => match d with | .none => false | .tuple _ => false | _ => true)
def deep64 (ds : List D) : Bool := ds.all fun d => decide (d.depth ≤ 64)
/-- sorted(xs) of a list -/
def lSorted (xs : List D) : R (List D) := match xs with
  | [.list ds] => if (alikeB ds && sortableB ds && deep64 ds && PyData.canLayAll0 ds) = true ∧ ds.length ≤ 100000 then .ok (isort leD ds) else .stuck
  | _ => .stuck
def rSortedD (K : PySem.W.Frag) : List V → Hp → VK → Prop := fun vs H Q => ∃ (a : Addr) (xs : List V) (ds : List D), vs = [.ref a] ∧ SqL K H a xs ∧ DpAll K H xs ds ∧ (alikeB ds && sortableB ds && deep64 ds && PyData.canLayAll0 ds) = true ∧ ds.length ≤ 100000 ∧
  ∀ (zs : List (V × D)) (p : Addr), zs = isort (fun a b => leD a.2 b.2) (xs.zip ds) → H p = none → Q (.ref p) (upd H p (.lst (zs.map (·.1))))
theorem dpAll_length {K : PySem.W.Frag} {H : Hp} : ∀ {xs : List V} {ds : List D}, DpAll K H xs ds → xs.length = ds.length
  | _, _, .nil => rfl
  | _, _, .cons _ t => congrArg Nat.succ (dpAll_length t)
theorem each_zip {K : PySem.W.Frag} {H : Hp} {h : Heap} : ∀ {xs : List V} {ds : List D} {us : List Value}, Vals xs us → xs.length = ds.length → PySem.W.EachIs (fun v (b : V × D) => RelV b.1 v) us (xs.zip ds)
  | [], [], _, .nil, _ => .nil
  | x :: xs, d :: ds, _, .cons r t, e => .cons r (each_zip (K := K) (H := H) (h := h) t (by simpa using e))
theorem each_reads {h : Heap} : ∀ {xs : List V} {ds : List D} {us : List Value} {as : List Addr}, ReadsAll h us ds as → xs.length = ds.length → PySem.W.EachIs (fun v (b : V × D) => ∃ as, Reads h v b.2 as) us (xs.zip ds)
  | [], [], _, _, .nil, _ => .nil
  | x :: xs, d :: ds, _, _, .cons r t, e => .cons ⟨_, r⟩ (each_reads t (by simpa using e))
theorem each_vals : ∀ {zs : List (V × D)} {us : List Value}, PySem.W.EachIs (fun v (b : V × D) => RelV b.1 v) us zs → Vals (zs.map (·.1)) us
  | _, _, .nil => .nil
  | _, _, .cons r t => .cons r (each_vals t)
theorem zip_snd : ∀ {xs : List V} {ds : List D}, xs.length = ds.length → (xs.zip ds).map (·.2) = ds
  | [], [], _ => rfl
  | x :: xs, d :: ds, e => by
    show d :: (xs.zip ds).map (·.2) = d :: ds
    rw [zip_snd (by simpa using e)]
theorem cr_sortedD {X : Cx} (hu : X.A.units + 100 < cLine) : CallR X (.builtin "sorted") (rSortedD X.K) := by
  intro pins s σ H vs us Q I r h
  obtain ⟨a, xs, ds, rfl, hs, hd, hb, hlen, q⟩ := h
  simp only [Bool.and_eq_true] at hb
  obtain ⟨⟨⟨b1, b2⟩, b3⟩, b4⟩ := hb
  rw [Vals.ref1 r]
  obtain ⟨its, rv, p, hz⟩ := I.list hs
  have hl := dpAll_length hd
  obtain ⟨as, hr⟩ := Dp.readsAll I ds xs its hd rv
  have em : (xs.zip ds).map (·.2) = ds := zip_snd hl
  have hal : PySem.W.AllAlike ((xs.zip ds).map (·.2)) := by
    rw [em]
    intro d hd d' hd'
    exact List.all_eq_true.mp (List.all_eq_true.mp b1 d hd) d' hd'
  have hk : PySem.W.Sortable ((xs.zip ds).map (·.2)) := by
    rw [em]
    rcases Bool.or_eq_true_iff.mp b2 with b2 | b2
    · refine .inl fun d hd => ?_
      have z := List.all_eq_true.mp b2 d hd
      split at z
      · exact ⟨_, _, rfl⟩
      · cases z
    · refine .inr fun d hd => ?_
      have z := List.all_eq_true.mp b2 d hd
      split at z
      · cases z
      · cases z
      · rename_i n1 n2
        exact ⟨fun e => n1 e, fun ys e => n2 ys e⟩
  refine PySem.W.sorted_data (enc := fun b : V × D => b.2) (R := fun v (b : V × D) => RelV b.1 v) p.isList (each_zip (K := X.K) (H := H) (h := s.heap) rv hl) (each_reads hr hl) hal hk ?_ (fun b hb => ?_) fun out ho he => ?_
  · rw [List.length_zip, hl, Nat.min_self]; exact le_line5 hlen
  · have : b.2 ∈ ds := by rw [← em]; exact List.mem_map.mpr ⟨b, hb, rfl⟩
    have := of_decide_eq_true (List.all_eq_true.mp b3 b.2 this)
    omega
  · have tot : PySem.W.TotalLe (PySem.W.dataLe false fun b : V × D => b.2) := PySem.W.sortLe_total _ _ _
    rw [isort_eq tot] at he
    obtain ⟨c, hg⟩ := PyProof.Rows.sortedAll_at s.heap its (List.toArray out)
    have hp : s.heap.objs.size ≤ s.heap.objs.size + 1 := Nat.le_succ _
    have hn : H (s.heap.objs.size + 1) = none := I.hok.fresh hp
    have hzl : ((isort (PySem.W.dataLe false fun b : V × D => b.2) (xs.zip ds)).map (·.1)).length ≤ sizeLine := by
      rw [List.length_map, isort_length, List.length_zip, hl, Nat.min_self]; exact le_line5 hlen
    refine ⟨.ref (s.heap.objs.size + 1), _, I.laid (o := .lst ((isort (PySem.W.dataLe false fun b : V × D => b.2) (xs.zip ds)).map (·.1))) (t' := s.toks) (fun b u e => PyProof.Rows.sortedAll_old e) hp ⟨hzl, out, c, each_vals he, hg⟩, rfl, q _ _ rfl hn⟩
theorem isort_zip {K : PySem.W.Frag} {M : Hp} : ∀ {xs : List V} {ds : List D}, Reps K M xs ds → Reps K M ((isort (fun a b : V × D => leD a.2 b.2) (xs.zip ds)).map (·.1)) (isort leD ds) := by
  have ins : ∀ {x : V} {d : D} {zs : List (V × D)}, Rep K M x d → Reps K M (zs.map (·.1)) (zs.map (·.2)) → Reps K M ((insD (fun a b : V × D => leD a.2 b.2) (x, d) zs).map (·.1)) ((insD (fun a b : V × D => leD a.2 b.2) (x, d) zs).map (·.2)) ∧
      (insD (fun a b : V × D => leD a.2 b.2) (x, d) zs).map (fun b => b.2) = insD leD d (zs.map (fun b => b.2)) := by
    intro x d zs hx
    induction zs with
    | nil => intro _; exact ⟨.cons hx .nil, rfl⟩
    | cons y r ih =>
      intro h
      cases h with
      | cons h1 h2 =>
        obtain ⟨i1, i2⟩ := ih h2
        by_cases c : leD d y.2 = true
        · simp only [insD, List.map_cons]
          rw [if_pos c, if_pos c]
          exact ⟨.cons hx (.cons h1 h2), rfl⟩
        · simp only [insD, List.map_cons]
          rw [if_neg c, if_neg c]
          exact ⟨.cons h1 i1, by rw [List.map_cons, i2]⟩
  have key : ∀ {xs : List V} {ds : List D}, Reps K M xs ds → Reps K M ((isort (fun a b : V × D => leD a.2 b.2) (xs.zip ds)).map (·.1)) ((isort (fun a b : V × D => leD a.2 b.2) (xs.zip ds)).map (·.2)) ∧
      (isort (fun a b : V × D => leD a.2 b.2) (xs.zip ds)).map (·.2) = isort leD ds := by
    intro xs ds h
    induction xs generalizing ds with
    | nil => cases h; exact ⟨.nil, rfl⟩
    | cons x xs ih =>
      cases h with
      | cons h1 h2 =>
        obtain ⟨i1, i2⟩ := ih h2
        obtain ⟨j1, j2⟩ := ins (zs := isort (fun a b : V × D => leD a.2 b.2) (xs.zip _)) h1 i1
        refine ⟨j1, ?_⟩
        exact j2.trans (by rw [i2]; rfl)
  intro xs ds h
  obtain ⟨a, b⟩ := key h
  rw [b] at a
  exact a
section
variable {B : ObjB} {X : Cx} {c : Ctx B} {pos : Pos}
theorem boot_sortedB : bootBuiltins "sorted" = some (.builtin "sorted") := by decide +kernel
theorem boot_setT : bootBuiltins "set" = some (.type "set") := by decide +kernel
def eSorted (f : Env B → R (List D)) : Env B → R (List D) := fun ρ => (f ρ).bind fun xs => lSorted xs
theorem units100 {k : Nat} (h : Room k X.A) : X.A.units + 100 < cLine := by have := h.un; omega
theorem dl_sorted {e : Expr} {es : List Expr} {f : Env B → R (List D)} {p : Pos} {k : Nat} (G : Good X c k) (hm : X.mg "sorted" = none) (ha : DA X c (e :: es) f) (hg : Gl X "sorted" := by rfl) (he : starEach (e :: es) X.env = (false, eval e X.env) :: starEach es X.env := by rfl) (hpl : (backTo pos (starEach es X.env)).any (·.1) = false := by rfl) :
    DL X c (.Call (.Name "sorted" p) (e :: es) [] pos) (eSorted f) := by
  refine ⟨PE.imp (pe_callB (cr_sortedD (units100 G.room)) hg hm boot_sortedB ha.pa (he := he) (hpl := hpl)) fun σ H Q ⟨I, M, ρ, e, q⟩ => ?_⟩
  refine ⟨I, M, ρ, e, q.bind.mono fun x hx v H1 M1 k1 e1 r1 => ?_⟩
  unfold lSorted at hx
  split at hx
  · split at hx
    · rename_i hc
      obtain ⟨hb, hl⟩ := hc
      cases r1 with
      | cons r1 r2 =>
        cases r2
        cases r1 with
        | lst h r =>
          have hb' := hb
          simp only [Bool.and_eq_true] at hb'
          refine ⟨_, _, _, rfl, SqL.of (e1.mok.same _ _ h), DpAll.up e1.mok.same (G.K ▸ r.dp hb'.2), hb, hl, fun zs p hz hp => ?_⟩
          subst hz
          exact fresh_end hx k1 e1 (isort_zip r) p hp
    · exact hx.elim
  · exact hx.elim

/-! ### sets of ints -/
/-- the members, rising -/
def insU (x : Int) : List Int → List Int
  | [] => [x]
  | y :: r => if x < y then x :: y :: r else if x = y then y :: r else y :: insU x r
def distI : List Int → List Int
  | [] => []
  | x :: r => insU x (distI r)
theorem insU_mem {x z : Int} : ∀ {l : List Int}, z ∈ insU x l ↔ z = x ∨ z ∈ l
  | [] => by simp [insU]
  | y :: r => by
    unfold insU
    split
    · simp
    · split
      · rename_i h; subst h; simp
      · rw [List.mem_cons, insU_mem, List.mem_cons]
        constructor
        · rintro (h | h | h)
          · exact .inr (.inl h)
          · exact .inl h
          · exact .inr (.inr h)
        · rintro (h | h | h)
          · exact .inr (.inl h)
          · exact .inl h
          · exact .inr (.inr h)
theorem insU_up {x : Int} : ∀ {l : List Int}, l.Pairwise (· < ·) → (insU x l).Pairwise (· < ·)
  | [], _ => by simp [insU]
  | y :: r, p => by
    unfold insU
    obtain ⟨p1, p2⟩ := List.pairwise_cons.mp p
    split
    · rename_i h
      refine List.pairwise_cons.mpr ⟨fun z hz => ?_, p⟩
      rcases List.mem_cons.mp hz with rfl | hz
      · exact h
      · have := p1 z hz; omega
    · split
      · exact p
      · refine List.pairwise_cons.mpr ⟨fun z hz => ?_, insU_up p2⟩
        rcases insU_mem.mp hz with rfl | hz
        · omega
        · exact p1 z hz
theorem distI_mem : ∀ {l : List Int} {z : Int}, z ∈ distI l ↔ z ∈ l
  | [], z => by simp [distI]
  | x :: r, z => by unfold distI; rw [insU_mem, distI_mem, List.mem_cons]
theorem distI_up : ∀ l : List Int, (distI l).Pairwise (· < ·)
  | [] => .nil
  | x :: r => insU_up (distI_up r)
theorem up_unique : ∀ {a b : List Int}, a.Pairwise (· < ·) → b.Pairwise (· < ·) → (∀ z, z ∈ a ↔ z ∈ b) → a = b
  | [], [], _, _, _ => rfl
  | [], y :: b, _, _, h => absurd ((h y).mpr (by simp)) (by simp)
  | x :: a, [], _, _, h => absurd ((h x).mp (by simp)) (by simp)
  | x :: a, y :: b, pa, pb, h => by
    obtain ⟨a1, a2⟩ := List.pairwise_cons.mp pa
    obtain ⟨b1, b2⟩ := List.pairwise_cons.mp pb
    have e : x = y := by
      have hx := (h x).mp (by simp)
      have hy := (h y).mpr (by simp)
      rcases List.mem_cons.mp hx with e | hx
      · exact e
      · rcases List.mem_cons.mp hy with e | hy
        · exact e.symm
        · have := b1 x hx; have := a1 y hy; omega
    subst e
    rw [up_unique a2 b2 fun z => ?_]
    constructor
    · intro hz
      rcases List.mem_cons.mp ((h z).mp (List.mem_cons_of_mem _ hz)) with e | q
      · subst e; exact absurd (a1 z hz) (by omega)
      · exact q
    · intro hz
      rcases List.mem_cons.mp ((h z).mpr (List.mem_cons_of_mem _ hz)) with e | q
      · subst e; exact absurd (b1 z hz) (by omega)
      · exact q
theorem up_nodup {a : List Int} (h : a.Pairwise (· < ·)) : a.Nodup := h.imp fun h e => by omega
theorem nodup_len : ∀ {a b : List Int}, a.Nodup → b.Nodup → (∀ z, z ∈ a ↔ z ∈ b) → a.length = b.length := fun {a b} ha hb h =>
  ((List.perm_ext_iff_of_nodup ha hb).mpr h).length_eq
def setInts (x : D) : R (List Int) := match x with
  | .tuple ds => match intsOf ds with
    | some ns => if ns.length ≤ 60 then .ok ns else .stuck
    | none => .stuck
  | _ => .stuck
/-- sorted(set(t)), len(set(t)), t a tuple of ints -/
def eSortSet (f : Env B → R D) : Env B → R (List D) := fun ρ => (f ρ).bind fun x => (setInts x).bind fun ns => .ok ((distI ns).map .int)
def eLenSet (f : Env B → R D) : Env B → R D := fun ρ => (f ρ).bind fun x => (setInts x).bind fun ns => .ok (.int (distI ns).length)
theorem setInts_rd {I : Ent} {x : D} {P : List Int → Prop} (h : RD c I (setInts x) P) : ∃ ns, x = .tuple (ns.map .int) ∧ ns.length ≤ 60 ∧ P ns := by
  unfold setInts at h
  split at h
  · split at h
    · rename_i ns hn
      split at h
      · exact ⟨ns, by rw [intsOf_eq hn], by assumption, h⟩
      · exact h.elim
    · exact h.elim
  · exact h.elim
/-- set(t): the set stands -/
def rSetT (K : PySem.W.Frag) (w : World) : V → Hp → VK → Prop := fun x H Q => ∃ (l : Addr) (ns : List Int), x = .ref l ∧ SqT K H l (ns.map V.int) ∧ ns.length ≤ 60 ∧ ∀ p n, H p = none → n ≤ ns.length → (distI ns).length = n → Q (.ref p) (upd H p (SetO w p (fun j => decide (j ∈ ns)) n))
theorem setR_len {w : World} {h : Heap} {a : Addr} {ns : List Int} {n : Nat} (R : SetR w h a (fun j => decide (j ∈ ns)) n) : (distI ns).length = n := by
  obtain ⟨o, es, ep, t, _, _, _, g, nd, hm, _, _, hn, _, _⟩ := R
  have e : (distI ns).length = (es.toList.map keyOf).length := nodup_len (up_nodup (distI_up ns)) nd fun z => by
    rw [distI_mem, ← hm z]
    simp
  rw [e, List.length_map, Array.length_toList, hn]
theorem pe_setT {a : Expr} {ta : TE} {p q : Pos} (hg2 : Gl X "set") (hm2 : X.mg "set" = none) (hc : X.calm = true) (ha : PE X a ta) (na : starEach [a] X.env = (false, eval a X.env) :: starEach [] X.env := by rfl) : PE X (.Call (.Name "set" p) [a] [] q) (tUn (rSetT X.K X.w) ta) := by
  refine ⟨fun pins s σ H Q I h => ?_⟩
  refine Call_ (ld_blt I hg2 hm2 PyProof.Rows.boot_set ?_)
  refine PyProof.Rows.callWith_type1 (PyProof.Rows.args_cons (thn (ha.run pins s σ H _ I h) fun v s1 ⟨x, H1, I1, r1, q1⟩ => PyProof.Rows.args_nil ?_) na) na rfl
  obtain ⟨l, ns, rfl, hq, hl, q1⟩ := q1
  cases r1
  obtain ⟨its, rv, pt, hz⟩ := I1.tuple hq
  have hi : IntsAre its.toArray.toList ns := by simpa using Vals.ints rv
  refine call_set_tupI ns (I1.ok.hd hc) (show s1.heap.IsTuple l its.toArray from pt) hi (by unfold scanBound; omega) fun h' tk n R1 hcn k => ?_
  have hn : H1 s1.heap.objs.size = none := I1.hok.fresh (Nat.le_refl _)
  exact ⟨.ref s1.heap.objs.size, _, I1.laid (t' := tk) k (Nat.le_refl _) (setO_new R1), rfl, q1 _ n hn hcn (setR_len R1)⟩
theorem dl_sortSet {a : Expr} {f : Env B → R D} {p p2 q : Pos} {k : Nat} (G : Good X c k) (hm : X.mg "sorted" = none) (hm2 : X.mg "set" = none) (ha : DE X c a f) (hg : Gl X "sorted" := by rfl) (hg2 : Gl X "set" := by rfl)
    (na : starEach [a] X.env = (false, eval a X.env) :: starEach [] X.env := by rfl) (he : starEach [.Call (.Name "set" p2) [a] [] q] X.env = (false, eval (.Call (.Name "set" p2) [a] [] q) X.env) :: starEach [] X.env := by rfl) :
    DL X c (.Call (.Name "sorted" p) [.Call (.Name "set" p2) [a] [] q] [] pos) (eSortSet f) := by
  refine ⟨PE.imp (pe_callB (cr_sortedSet G.calm) hg hm boot_sortedB (pa_cons (pe_setT hg2 hm2 G.calm ha.pe na) pa_nil he) (he := he) (hpl := rfl)) fun σ H Q ⟨I, M, ρ, e, q⟩ => ?_⟩
  refine ⟨I, M, ρ, e, q.bind.mono fun x hx v H1 M1 k1 e1 r1 => ?_⟩
  obtain ⟨ns, rfl, hl, hx⟩ := setInts_rd hx.bind
  cases r1 with
  | tup h r =>
    cases r.ints
    refine ⟨_, ns, rfl, G.K ▸ sqT_same e1.mok.same h, hl, fun p0 n hp hn hd => ?_⟩
    refine ⟨p0, _, n, rfl, upd_same, by omega, fun ms p1 hup hmem hlen hp1 => ?_⟩
    have em : ms = distI ns := up_unique hup (distI_up ns) fun z => by rw [hmem z, distI_mem]; simp
    subst em
    -- the set itself stays behind
    have sm : Same H1 (upd H1 p0 (SetO X.w p0 (fun j => decide (j ∈ ns)) n)) := upd_same_of hp
    have g : Grow M1 H1 M1 (upd H1 p0 (SetO X.w p0 (fun j => decide (j ∈ ns)) n)) := ⟨sm, Same.refl _, fun b o z => ⟨sm _ _ (e1.mok b o z).1, (e1.mok b o z).2⟩, fun b o z n => by rw [z] at n; cases n⟩
    exact fresh_end hx (k1.trans (.of g)) (e1.grow g) (Reps.of_ints _) p1 hp1
theorem call_len_setO {pins : List (Addr × Obj)} {σ : L2.St} {H : Hp} {s : Shared} {a : Addr} {S : Int → Bool} {n : Nat} {Q : VK} (I : Inv X pins σ H s) (ha : H a = some (SetO X.w a S n)) (hn : n < 100) (q : Q (.int n) H) : wpAny (model X.prog X.w) X.A (PySem.call (.builtin "len") [.ref a]) (EP X pins σ Q) X.xe s := by
  obtain ⟨o, es, ep, t, ho, hex, hd, _, _, _, _, hf, hn', _⟩ := setO_get I ha
  exact call_len_set ho hex hd hf (by omega) ⟨.int n, H, I.tok _, ⟨_, by rw [hn']⟩, q⟩
theorem de_lenSet {a : Expr} {f : Env B → R D} {p p2 q : Pos} {k : Nat} (G : Good X c k) (hm : X.mg "len" = none) (hm2 : X.mg "set" = none) (ha : DE X c a f) (hg : Gl X "len" := by rfl) (hg2 : Gl X "set" := by rfl)
    (na : starEach [a] X.env = (false, eval a X.env) :: starEach [] X.env := by rfl) (he : starEach [.Call (.Name "set" p2) [a] [] q] X.env = (false, eval (.Call (.Name "set" p2) [a] [] q) X.env) :: starEach [] X.env := by rfl) :
    DE X c (.Call (.Name "len" p) [.Call (.Name "set" p2) [a] [] q] [] pos) (eLenSet f) := by
  have hcall : CallR X (.builtin "len") (fun xs H Q => ∃ a S n, xs = [.ref a] ∧ H a = some (SetO X.w a S n) ∧ n < 100 ∧ Q (.int n) H) := by
    intro pins s σ H xs us Q I r h
    obtain ⟨a, S, n, rfl, ha, hn, q⟩ := h
    rw [Vals.ref1 r]
    exact call_len_setO I ha hn q
  refine ⟨PE.imp (pe_callB hcall hg hm PySem.boot_len (pa_cons (pe_setT hg2 hm2 G.calm ha.pe na) pa_nil he) (he := he) (hpl := rfl)) fun σ H Q ⟨I, M, ρ, e, q⟩ => ?_⟩
  refine ⟨I, M, ρ, e, q.bind.mono fun x hx v H1 M1 k1 e1 r1 => ?_⟩
  obtain ⟨ns, rfl, hl, hx⟩ := setInts_rd hx.bind
  cases r1 with
  | tup h r =>
    cases r.ints
    refine ⟨_, ns, rfl, G.K ▸ sqT_same e1.mok.same h, hl, fun p0 n hp hn hd => ?_⟩
    have sm : Same H1 (upd H1 p0 (SetO X.w p0 (fun j => decide (j ∈ ns)) n)) := upd_same_of hp
    have g : Grow M1 H1 M1 (upd H1 p0 (SetO X.w p0 (fun j => decide (j ∈ ns)) n)) := ⟨sm, Same.refl _, fun b o z => ⟨sm _ _ (e1.mok b o z).1, (e1.mok b o z).2⟩, fun b o z n => by rw [z] at n; cases n⟩
    refine ⟨p0, _, n, rfl, upd_same, by omega, ?_⟩
    rw [hd] at hx
    exact hx _ _ M1 (k1.trans (.of g)) (e1.grow g) (.int _)
end
end PL

set_option Elab.async false
set_option linter.all false
set_option maxRecDepth 100000
set_option maxHeartbeats 4000000
/-! more conversions -/
namespace PL
open PySem PySem.Spec PyProof.Rows L2
section
variable {B : ObjB} {X : Cx} {c : Ctx B} {pos : Pos} {K : PySem.W.Frag} {I : Ent} {M H M' H' : Hp} {σ σ' : L2.St} {ρ ρ' : Env B}
/-- list(range(n)) -/
def lListRange (f : Env B → R D) : Env B → R (List D) := fun ρ => (f ρ).bind fun x => match x with
  | .int j => if -100000 ≤ j ∧ j ≤ 100000 then .ok (rangeD 0 j) else .stuck
  | _ => .stuck
theorem reps_rg {a b : Int} : Reps K M (rgV a b) (rangeD a b) := by
  have e1 : rgV a b = ((List.range (b - a).toNat).map fun i : Nat => a + (i : Int)).map V.int := by unfold rgV; rw [List.map_map]; rfl
  have e2 : rangeD a b = ((List.range (b - a).toNat).map fun i : Nat => a + (i : Int)).map PyData.int := by unfold rangeD; rw [List.map_map]; rfl
  rw [e1, e2]
  exact Reps.of_ints _
theorem dl_listRange {a : Expr} {f : Env B → R D} {p p2 q : Pos} {k : Nat} (G : Good X c k) (hm : X.mg "list" = none) (hm2 : X.mg "range" = none) (ha : DE X c a f) (hg : Gl X "list" := by rfl) (hg2 : Gl X "range" := by rfl)
    (na : starEach [a] X.env = (false, eval a X.env) :: starEach [] X.env := by rfl) (he : starEach [.Call (.Name "range" p2) [a] [] q] X.env = (false, eval (.Call (.Name "range" p2) [a] [] q) X.env) :: starEach [] X.env := by rfl) :
    DL X c (.Call (.Name "list" p) [.Call (.Name "range" p2) [a] [] q] [] pos) (lListRange f) := by
  refine ⟨PE.imp (pe_listRg G.calm hg hm (prg_1 hg2 hm2 ha.pe na) he) fun σ H Q ⟨I, M, ρ, e, q⟩ => ?_⟩
  refine ⟨I, M, ρ, e, q.bind.mono fun x hx v H1 M1 k1 e1 r1 => ?_⟩
  split at hx
  · rename_i j
    split at hx
    · rename_i hb
      cases r1
      exact ⟨j, rfl, ⟨by omega, by omega, by omega, by omega, by omega⟩, fresh_end hx k1 e1 reps_rg⟩
    · exact hx.elim
  · exact hx.elim
/-- {} -/
theorem de_dic : DE X c (.Dict [] [] pos) (eC (.dict [])) := by
  refine ⟨PE.imp pe_dnewK fun σ H Q ⟨I, M, ρ, e, q⟩ => fun p hp => ?_⟩
  have g := Grow.alloc e.mok hp (o := .dK []) rfl
  exact q (.ref p) _ _ (.of g) (e.grow g) (.dic upd_same)
end
end PL

set_option Elab.async false
set_option linter.all false
set_option maxRecDepth 100000
set_option maxHeartbeats 4000000
/-! caught errors -/
namespace PL
open PySem PySem.Spec PyProof.Rows L2
/-! ### a hook with more facts -/
def hookX (n : Nat) (fa : List He.Fa) (fn : List He.DefD) (ex : PySem.W.Frag → Bool) : PySem.W.Hook where
  α := He.AlD
  obs := fun s => let K := He.frG s.heap.get? (He.asD s.heap.get? n); ((He.obsD fa fn K).1 && ex K, (He.obsD fa fn K).2)
  val := fun _ => He.valD fn
  says := fun _ h => ∃ K : PySem.W.Frag, K.In h ∧ He.SaysD fa fn K ∧ ex K = true
  of := fun _ _ e => by
    have e1 := congrArg (fun z : He.AlD => z.1) e
    have e2 := congrArg (fun z : He.AlD => z.2) e
    obtain ⟨b1, b2⟩ := He.ba (show ((He.obsD fa fn _).1 && ex _) = true from e1)
    exact ⟨_, He.frG_in, Prod.ext b1 e2, b2⟩
  keeps := fun _ _ _ ⟨K, hK, c, d⟩ k => ⟨K, PySem.W.Frag.In.keeps hK k, c, d⟩
def obX (n : Nat) (fa : List He.Fa) (fn : List He.DefD) (ex : PySem.W.Frag → Bool) (g : Addr → Option Obj) : He.AlD := ((He.obsD fa fn (He.frG g (He.asD g n))).1 && ex (He.frG g (He.asD g n)), (He.obsD fa fn (He.frG g (He.asD g n))).2)
theorem obX_eq {n : Nat} {fa : List He.Fa} {fn : List He.DefD} {ex : PySem.W.Frag → Bool} {g : Addr → Option Obj} {s : Shared} (h : ∀ a, g a = s.heap.get? a) : obX n fa fn ex g = (hookX n fa fn ex).obs s := by
  have e : g = s.heap.get? := funext h
  rw [e] <;> rfl

/-! ### isinstance of a caught error -/
def excB (a : Addr) : ObjB := ⟨Unit, fun _ _ _ v _ => v = .ref a, fun _ _ _ _ _ _ _ h _ _ => h⟩
def excCB (K : PySem.W.Frag) (D : Addr) : Bool :=
  decide (PySem.W.findIn K (.ref D) "__getattribute__" = some (some (.builtin "BaseException.__getattribute__"))) && (decide (PySem.W.findIn K (.ref D) "__getattr__" = some none) && (decide (PySem.W.subIn K (.ref D) (.type "BaseException") = some true) &&
  (PySem.W.hasDictIn K D && (decide (PySem.W.findIn K (.ref D) "__class__" = some (some (.builtin "object.__class__"))) && (decide (PySem.W.specialIn K (.builtin "object.__class__") "__get__" = some (some (.builtin "getset_descriptor.__get__"))) &&
  (decide (PySem.W.takesIn K (.builtin "object.__class__") = some true) && decide (PySem.W.mroIn K D (.type "object") = some true)))))))
theorem excCB_ok {K : PySem.W.Frag} {D : Addr} (h : excCB K D = true) : ExcC K D := by
  unfold excCB at h
  obtain ⟨h1, h⟩ := He.ba h
  obtain ⟨h2, h⟩ := He.ba h
  obtain ⟨h3, h⟩ := He.ba h
  obtain ⟨h4, h⟩ := He.ba h
  obtain ⟨h5, h⟩ := He.ba h
  obtain ⟨h6, h⟩ := He.ba h
  obtain ⟨h7, h8⟩ := He.ba h
  exact ⟨of_decide_eq_true h1, of_decide_eq_true h2, of_decide_eq_true h3, h4, of_decide_eq_true h5, of_decide_eq_true h6, of_decide_eq_true h7, of_decide_eq_true h8⟩
/-- the names of the classes of errors, what is asked of the classes -/
def exNames : List Str := ["PanError", "BadCount", "BadCases", "BadDone"]
def exFacts (K : PySem.W.Frag) : Bool := [("BadCount" : Str), "BadCases", "BadDone"].all fun x => excCB K (He.ga K x) && (decide (PySem.W.kitOne K (.ref (He.ga K x)) (.type "ValueError") = some true) && (decide (PySem.W.exmOne K (.ref (He.ga K x)) (.ref (He.ga K "PanError")) = some true) &&
  [("BadCount" : Str), "BadCases", "BadDone"].all fun y => decide (PySem.W.kitOne K (.ref (He.ga K x)) (.ref (He.ga K y)) = some (decide (x = y)))))
structure ExcK (K : PySem.W.Frag) (x : Str) : Prop where
  c : ExcC K (He.ga K x)
  ve : PySem.W.kitOne K (.ref (He.ga K x)) (.type "ValueError") = some true
  pe : PySem.W.exmOne K (.ref (He.ga K x)) (.ref (He.ga K "PanError")) = some true
  is : ∀ y ∈ [("BadCount" : Str), "BadCases", "BadDone"], PySem.W.kitOne K (.ref (He.ga K x)) (.ref (He.ga K y)) = some (decide (x = y))
theorem exFacts_ok {K : PySem.W.Frag} (h : exFacts K = true) {x : Str} (hx : x ∈ [("BadCount" : Str), "BadCases", "BadDone"]) : ExcK K x := by
  have h1 := List.all_eq_true.mp h x hx
  obtain ⟨a, h1⟩ := He.ba h1
  obtain ⟨b, h1⟩ := He.ba h1
  obtain ⟨d, h1⟩ := He.ba h1
  exact ⟨excCB_ok a, of_decide_eq_true b, of_decide_eq_true d, fun y hy => of_decide_eq_true (List.all_eq_true.mp h1 y hy)⟩
section
variable {B : ObjB} {X : Cx} {c : Ctx B} {pos : Pos} {K : PySem.W.Frag} {I : Ent} {M H M' H' : Hp} {σ σ' : L2.St} {ρ ρ' : Env B}
theorem call_isX {a D : Addr} {oe : Obj} (C : ExcC X.K D) (hp : (a, oe) ∈ X.pn) (hz : L2N.Zn (.ref D) none oe) (hf : ∃ vs, oe.data = .fields vs) : CallR X (.builtin "isinstance") (rIsE X.K D a) := by
  intro pins s τ H0 xs us Q J r h
  obtain ⟨t, cv, b, rfl, hcv, e, q⟩ := h
  obtain ⟨ux, ut, rfl, rx, rt⟩ : ∃ ux ut, us = [ux, ut] ∧ RelV (.ref a) ux ∧ RelV t ut := by
    cases r with
    | cons rx rr => cases rr with
      | cons rt rr => cases rr; exact ⟨_, _, rfl, rx, rt⟩
  cases hcv _ rt
  cases rx
  have hget := (J.pin (a, oe) (List.mem_append_left _ hp)).1
  obtain ⟨vs, hv⟩ := hf
  have JA : PySem.W.InstAt s.heap a oe D none := by
    obtain ⟨oc, od, oda, osl⟩ := oe
    obtain ⟨h1, h2, _⟩ := hz
    cases (show oc = _ from h1)
    cases (show od = _ from h2)
    cases (show oda = _ from hv)
    exact ⟨hget, rfl, rfl, trivial⟩
  have kx := PySem.W.handS_kitx_exc (x := a) (ox := oe) C.hg C.hk C.hs C.hd C.ha C.hn C.ht C.hm
  exact PySem.W.kia_one kx J.kIn JA e (fun z => nomatch z) fun tk => ⟨.bl b, H0, J.kept (t' := tk) fun _ _ z => z, rfl, q⟩
def eIsE (i : Nat) (b : Bool) : Env B → R D := fun ρ => match ρ[i]? with
  | some (.obj _) => .ok (.bool b)
  | _ => .stuck
end
section
variable {X : Cx} {pos : Pos}
theorem de_isE {a D : Addr} {c : Ctx (excB a)} {i : Nat} {x y : Str} {oe : Obj} {b : Bool} {t : V} {cv : Value} {p px py : Pos} (C : ExcC X.K D) (hp : (a, oe) ∈ X.pn) (hz : L2N.Zn (.ref D) none oe) (hf : ∃ vs, oe.data = .fields vs) (hm : X.mg "isinstance" = none)
    (hT : PE X (.Name y py) (tC t)) (hcv : ∀ u, RelV t u → u = cv) (hk : PySem.W.kitOne X.K (.ref D) cv = some b) (hN : X.N[i]? = some x) (hv : Vis X.env.scope x) (hg : Gl X "isinstance" := by rfl) (hd : (x == ("__debug__" : Str)) = false := by decide) (hcd : (x == ("__classdict__" : Str)) = false := by decide)
    (hs : starEach [.Name x px, .Name y py] X.env = (false, eval (.Name x px) X.env) :: starEach [.Name y py] X.env := by rfl) (hs2 : starEach [.Name y py] X.env = (false, eval (.Name y py) X.env) :: starEach [] X.env := by rfl) (hpl : (backTo pos (starEach [.Name y py] X.env)).any (·.1) = false := by rfl) :
    DE X c (.Call (.Name "isinstance" p) [.Name x px, .Name y py] [] pos) (eIsE i b) := by
  refine ⟨PE.imp (pe_callB (call_isX C hp hz hf) hg hm boot_isiB (pa_cons (pe_var hN hv hd hcd) (pa_cons hT pa_nil hs2) hs) (he := hs) (hpl := hpl)) fun σ H Q ⟨I, M, ρ, e, q⟩ => ?_⟩
  unfold eIsE at q
  split at q
  · rename_i z hi
    obtain ⟨v, hv, r⟩ := e.slots i _ hi
    cases (show v = .ref a from r)
    exact ⟨_, hv, t, cv, b, rfl, hcv, hk, q _ H M .refl e (.bl b)⟩
  · exact q.elim
end
section
variable {B : ObjB} {X : Cx} {c : Ctx B} {pos : Pos}
/-! ### a text once or not at all -/
def dMulS : D → D → R D
  | .str x, .int k => if 0 ≤ k ∧ k ≤ 60 ∧ x.length ≤ 60 then .ok (.str (PySem.Txt.mul x k)) else .stuck
  | _, _ => .stuck
abbrev rMulS : R2 := fun x y H Q => ∃ i k, x = .str i ∧ y = .int k ∧ (0 ≤ k ∧ k ≤ 60 ∧ i.length ≤ 60) ∧ Q (.str (PySem.Txt.mul i k)) H
theorem op_mulS : OpR X (binaryOp .Mult) rMulS := by
  intro pins s σ H x y u u' Q I rx ry h
  obtain ⟨i, k, rfl, rfl, hk, q⟩ := h
  obtain ⟨t1, rfl⟩ := rx
  obtain ⟨t2, rfl⟩ := ry
  refine PySem.SB.mul ⟨?_, fun h1 h2 => ?_, fun h1 h2 => ?_⟩ fun t' tk => ⟨.str _, H, I.kept (t' := tk) fun _ _ z => z, ⟨t', rfl⟩, q⟩
  · have h1 : ¬ k < -(2 ^ 63 : Int) := by omega
    have h2 : ¬ k ≥ 2 ^ 63 := by omega
    simp [h1, h2]
    omega
  · have h3 : (153722867280912930 : Int) ≤ (2 ^ 63 - 1) / k := (Int.le_ediv_iff_mul_le (by omega)).mpr (by omega)
    omega
  · have h3 : i.length * k.toNat ≤ 60 * 60 := Nat.mul_le_mul hk.2.2 (by omega)
    have h4 : ¬ i.length * k.toNat > sizeLine := by have : (3600 : Nat) ≤ sizeLine := by decide
                                                    omega
    simp [PySem.Builtin.Str.tooLong, h4]
theorem ok_mulS {K : PySem.W.Frag} : Ok2 K rMulS dMulS := by
  intro M H v w dv dw d Q k rv rw' h q
  unfold dMulS at h
  split at h
  · cases rv; cases rw'
    split at h
    · rename_i hk
      cases h
      exact ⟨_, _, rfl, rfl, hk, q _ _ _ (.refl k) (.str _)⟩
    · cases h
  · cases h
theorem de_mulS {a b : Expr} {f g : Env B → R D} (ha : DE X c a f) (hb : DE X c b g) : DE X c (.BinOp a .Mult b pos) (e2 dMulS f g) := de_2 (fun h1 h2 => pe_op op_mulS h1 h2) ok_mulS ha hb
end

/-! ### a def that is called with the caught error -/
structure GoodM {B : ObjB} (X : Cx) (c : Ctx B) : Prop where
  K : c.K = X.K
  nd : X.N.Nodup
structure FnX (P : Program) (w : World) (K : PySem.W.Frag) (mg : Str → Option Value) (base : Heap) (x : Str) (k : Nat) (Da : Addr) (z : Str) : Prop where
  ex : ∃ f fd y, mg x = some (.ref f) ∧ PySem.W.keepIn K (.ref f) = true ∧ Binds K fd [y] [] ∧ ∀ (A : Around) (outer : List PySem.Env) (s : Shared) (H : Hp) (args : Args) (u : Value) (Q : VK) (E : XK) (p : Addr × Obj), L2H.RoomH k A → L2H.Hot1 A p → L2H.PinOk outer H s p →
    L2N.Zn (.ref Da) none p.2 → (∃ vs, p.2.data = .fields vs) → Env0 P w K mg base A outer s H → BindsTo s fd args [(y, u)] → RelV (.ref p.1) u → (∀ H', Same H H' → Q (.str z) H') → codeAny (model P w) A (.call (.ref f) args) (CR (L2N.CX P w) outer P w H s Q E) s
abbrev cxX (P : Program) (w : World) (K : PySem.W.Frag) (mg : Str → Option Value) (base : Heap) (N : List Str) (qual : Str) (scope : Scope) (f : Addr) (cd : Value) (A : Around) (outer : List PySem.Env) (s : Shared) (H : Hp) (E : XK) (p : Addr × Obj) : Cx :=
  L2H.cxH (L2N.CX P w) P w K mg base N qual scope f cd A outer s H E p
def startX (a : Addr) (n : Nat) : L2.St := some (.ref a) :: List.replicate (n - 1) none
def startXE (a : Addr) (n : Nat) : Env (excB a) := .obj () :: List.replicate (n - 1) .no
theorem startX_env {K : PySem.W.Frag} {a : Addr} {H : Hp} (n : Nat) : EnvR K ⟨fun _ => none, H, false⟩ (fun _ => none) H (startX a n) (startXE a n) where
  len := by unfold startX startXE; simp
  ent := .refl
  msub := Same.refl _
  mok := fun a o h => by cases h
  mnew := fun a o h n => by cases h
  slots := fun i s h => by
    unfold startXE at h
    cases i with
    | zero => cases h; exact ⟨_, rfl, rfl⟩
    | succ i =>
      have h' : (List.replicate (n - 1) (Slot.no : Slot (excB a)))[i]? = some s := h
      rw [List.getElem?_replicate] at h'
      split at h' <;> cases h'
      trivial
  apart := fun i j ds es hne h1 h2 => by
    unfold startXE at h1
    cases i with
    | zero => cases h1
    | succ i =>
      have h' : (List.replicate (n - 1) (Slot.no : Slot (excB a)))[i]? = some (.own ds) := h1
      rw [List.getElem?_replicate] at h'
      split at h' <;> cases h'
theorem fnx_mk {P : Program} {w : World} {K : PySem.W.Frag} {mg : Str → Option Value} {base : Heap} {cA : Nat → Addr} {x qual y : Str} {params : Arguments} {body : List Stmt} {scope : Scope} {kws : List (Str × V)} {f : Addr} {fd : FuncData} {N : List Str} {k : Nat} {Da : Addr} {z : Str}
    {g : (a : Addr) → GS (excB a)} (FD : FunD K x qual params body scope [] kws f fd) (S : FnScope N [y] scope) (hb : Binds K fd [y] []) (gx : mg x = some (.ref f))
    (hbody : ∀ (cdv : Value) (A : Around) (outer : List PySem.Env) (s : Shared) (H : Hp) (E : XK) (p : Addr × Obj), L2N.Zn (.ref Da) none p.2 → (∃ vs, p.2.data = .fields vs) → GoodM (B := excB p.1) (cxX P w K mg base N qual scope f cdv A outer s H E p) ⟨K, cA, E⟩ → DSs (cxX P w K mg base N qual scope f cdv A outer s H E p) ⟨K, cA, E⟩ body (g p.1))
    (hg : ∀ a, ∃ ρ, g a (startXE a N.length) = .ok (.rt (.str z), ρ)) : FnX P w K mg base x (k + 1) Da z := by
  refine ⟨f, fd, y, gx, FD.kp, hb, fun A outer s H args u Q E p hr hot hpin hz hfs e0 hbn ru hq => ?_⟩
  obtain ⟨oc, od, dV, kV, doc, pm, an, cdv, ct, osl, rfl, lk, hcd, _, _⟩ := FD.ex
  have kin : K.In s.heap := e0.mod.kin.keeps fun b o e => (e0.bs b o e).1
  have nol : s.heap.NoLimit := e0.mod.nolimit.keeps fun b o e => (e0.bs b o e).1
  have hkd : ∀ q ∈ [(y, u)], scope.names.lookup q.1 = some .local ∨ (scope.names.lookup q.1 = some .cell ∧ ((cellsFrom (s.heap.objs.size + 1) scope.names []).lookup q.1).isSome = true) := fun q hq => by
    rw [List.mem_singleton] at hq
    subst hq
    exact (S.par y (List.mem_singleton.mpr rfl)).imp id fun h => ⟨h, PySem.W.cellsFrom_some _ _ _ (.inl h)⟩
  refine codeAny_call_function hr.depth (kin _ _ lk) rfl S.co S.gen rfl (PySem.W.codeRec_of kin hcd) (hbn _ _ _ _ ?_)
  refine wpAny_newFunctionEnv_cells S.kind hkd fun env he s1 xc => ?_
  subst he
  refine ⟨nol.keeps xc.toInCall.keep, codeAny_func ?_⟩
  have J : Inv (cxX P w K mg base N qual scope f cdv A outer s H E p) [] (L2.start N [.ref p.1]) H s1 := L2H.inv_startH (ps := [y]) (us := [u]) S hpin e0 rfl (.cons ru .nil) xc
  obtain ⟨ρ, hρ⟩ := hg p.1
  have st : L2.start N [V.ref p.1] = startX p.1 N.length := rfl
  have q0 : tDS ⟨K, cA, E⟩ (g p.1) { nx := fun _ H' => Q .non H', rt := Q } (L2.start N [.ref p.1]) H := by
    rw [st]
    refine ⟨_, _, _, startX_env N.length, ?_⟩
    rw [hρ]
    intro v σ' H' M' sm e' r
    cases r
    exact hq H' e'.ent.same
  refine wpAny_mono ((hbody cdv A outer s H E p hz hfs ⟨rfl, S.nd⟩).pss.run [] s1 _ H _ J q0) (fun fl s' hs => ?_) fun e s' hs => hs
  cases fl with
  | ret u =>
    obtain ⟨v, σ', H', J', rv, q⟩ := hs
    exact ⟨v, H', J'.os, J'.bare, J'.base, J'.hok, rv, q⟩
  | next =>
    obtain ⟨σ', H', J', q⟩ := hs
    exact ⟨V.non, H', J'.os, J'.bare, J'.base, J'.hok, rfl, q⟩
  | brk =>
    obtain ⟨_, _, _, q⟩ := hs
    exact q.elim
  | cont =>
    obtain ⟨_, _, _, q⟩ := hs
    exact q.elim
/-- the call, in the except suite -/
theorem pe_callX {X : Cx} {x y : Str} {k : Nat} {Da : Addr} {z : Str} {p : Addr × Obj} {i : Nat} {q py pos : Pos} (F : FnX X.prog X.w X.K X.mg X.base x k Da z) (hr : L2H.RoomH k X.A) (hot : L2H.Hot1 X.A p) (hp : p ∈ X.pn) (hz : L2N.Zn (.ref Da) none p.2) (hf : ∃ vs, p.2.data = .fields vs) (hx : ∀ (pins : List (Addr × Obj)) (σ : L2.St) (H : Hp) (s : Shared) (e : Value) (s' : Shared), Inv X pins σ H s → L2N.CX X.prog X.w X.stack H s (fun _ _ _ => False) e s' → X.xe e s')
    (hN : X.N[i]? = some y) (hv : Vis X.env.scope y) (hg : Gl X x := by rfl) (hdb : (x == ("__debug__" : Str)) = false := by decide) (hd : (y == ("__debug__" : Str)) = false := by decide) (hcd : (y == ("__classdict__" : Str)) = false := by decide)
    (he : starEach [.Name y py] X.env = (false, eval (.Name y py) X.env) :: starEach [] X.env := by rfl) (hpl : (backTo pos (starEach [] X.env)).any (·.1) = false := by rfl) :
    PE X (.Call (.Name x q) [.Name y py] [] pos) (fun σ H Q => σ[i]? = some (some (.ref p.1)) ∧ ∀ H', Same H H' → Q (.str z) H') := by
  refine ⟨fun pins s σ H Q J h => ?_⟩
  obtain ⟨f, fd, yy, hm, hk, hb, run⟩ := F.ex
  refine wpAny_Call_Name_kw (ld_glob J hg hm ?_ hdb)
  have ha : PA X [.Name y py] (tCons (tVar i) tNil) := pa_cons (pe_var hN hv hd hcd) pa_nil he
  refine PySem.W.callWith_K (h₀ := X.base) J.ok.mod.kin hk (thn (ha.run pos pins s σ H (fun vs H1 => vs = [V.ref p.1] ∧ H1 = H) J ⟨_, h.1, rfl, rfl⟩) fun us s1 ⟨vs, H1, I1, r, ev, eH⟩ => ⟨I1.kIn, ?_⟩) he hpl
  subst ev
  subst eH
  obtain ⟨u, rfl, ru⟩ : ∃ u, us = [u] ∧ RelV (.ref p.1) u := by
    cases r with
    | cons r0 r1 => cases r1; exact ⟨_, rfl, r0⟩
  have b := hb s1 [u] I1.kIn rfl
  rw [List.append_nil] at b
  have P1 := I1.pin p (List.mem_append_left _ hp)
  have pok : L2H.PinOk X.stack H1 s1 p := ⟨P1.1, P1.2.1, fun hm => (List.mem_cons.mp (I1.stkSub p.1 hm)).elim P1.2.2.1 P1.2.2.2.1, P1.2.2.2.2⟩
  refine wpAny_call (codeAny_mono (run X.A X.stack s1 H1 ⟨[u], []⟩ u Q (fun _ _ _ => False) p hr hot pok hz hf I1.env0 b ru h.2) fun r s' hq => ?_)
  cases r with
  | error e => exact hx pins σ H1 s1 e s' I1 hq
  | ok fl =>
    cases fl with
    | ret u => exact I1.after hq
    | next => exact hq.elim
    | brk => exact hq.elim
    | cont => exact hq.elim
end PL

set_option Elab.async false
set_option linter.all false
set_option maxRecDepth 100000
set_option maxHeartbeats 4000000
/-! a def: try .., except PanError, return -/
namespace PL
open PySem PySem.Spec PyProof.Rows L2
section
variable {P : Program} {w : World} {K : PySem.W.Frag} {mg : Str → Option Value} {base : Heap} {cA : Nat → Addr}
def tryF (n : Nat) (g : GS noObj) (hd : Nat → Option D) (dd : D) : List D → R D := fun ds => match g (startE n ds) with
  | .ok (.nx, _) => .ok dd
  | .ok _ => .stuck
  | .exc m => match hd m with
    | some d => .ok d
    | none => .stuck
  | .stuck => .stuck
/-- plain values stand for themselves -/
def plainV : D → Option V
  | .bool b => some (.bl b)
  | .str x => some (.str x)
  | _ => none
theorem plainV_rep {d : D} {v : V} (h : plainV d = some v) (M : Hp) : Rep K M v d := by
  unfold plainV at h
  split at h
  · cases h; exact .bl _
  · cases h; exact .str _
  · cases h
def tSuite (cA : Nat → Addr) (hd : Nat → Option D) (i : Nat) (a : Addr) (cls : Value) (d : Option Addr) : TS := fun Dn σ H => ∃ n r v, cls = .ref (cA n) ∧ d = none ∧ hd n = some r ∧ plainV r = some v ∧ σ[i]? = some (some (.ref a)) ∧ ∀ H', Same H H' → Dn.rt v H'
theorem df_try {x qual y : Str} {params : Arguments} {body tb : List Stmt} {scope : Scope} {kws : List (Str × V)} {f pE : Addr} {fd : FuncData} {N ps : List Str} {k i : Nat} {g : GS noObj} {e ed : Expr} {np p1 p2 p3 p4 : Pos} {hd : Nat → Option D} {dd : D} {vd : V}
    (FD : FunD K x qual params body scope [] kws f fd) (S : FnScope N ps scope) (hb : Binds K fd ps []) (gx : mg x = some (.ref f))
    (eb : body = [.Try tb [.ExceptHandler (some (.Name "PanError" np)) (some y) [.Return (some e) p1] p2] [] [] p3, .Return (some ed) p4]) (hi : N[i]? = some y) (hy : scope.names.lookup y = some .local) (hg : mg "PanError" = some (.ref pE)) 
    (hG : ∀ (cdv : Value) (A : Around) (outer : List PySem.Env) (s : Shared) (H : Hp) (E : XK), Gl (bodyC P w K mg base N qual scope f cdv A outer s H E) "PanError")
    (hk : ∀ (cdv : Value) (A : Around) (outer : List PySem.Env) (s : Shared) (H : Hp) (E : XK), (bodyC P w K mg base N qual scope f cdv A outer s H E).env.kindOf y = some .local)
    (hm : ∀ m r, hd m = some r → PySem.W.exmOne K (.ref (cA m)) (.ref pE) = some true)
    (hpl : ∀ m r, hd m = some r → ∃ v, plainV r = some v)
    (hbody : ∀ (cdv : Value) (A : Around) (outer : List PySem.Env) (s : Shared) (H : Hp) (E E' : XK) (pn : List (Addr × Obj)) (xe : Value → Shared → Prop), GoodS (B := noObj) ((bodyC P w K mg base N qual scope f cdv A outer s H E).tr pn xe) ⟨K, cA, E'⟩ k →
      DSs ((bodyC P w K mg base N qual scope f cdv A outer s H E).tr pn xe) ⟨K, cA, E'⟩ tb g)
    (hsu : ∀ (cdv : Value) (A : Around) (outer : List PySem.Env) (s : Shared) (H : Hp) (E : XK) (n : Nat) (r : D) (v : V) (a : Addr) (oe : Obj) (pn : List (Addr × Obj)), Room k (A.deeper (envOfC qual scope s.heap.objs.size f cdv)) → hd n = some r → plainV r = some v → L2N.Zn (.ref (cA n)) none oe → (∃ vs, oe.data = .fields vs) →
      PE ((bodyC P w K mg base N qual scope f cdv A outer s H E).suite a ((a, oe) :: pn)) e (fun σ H Q => σ[i]? = some (some (.ref a)) ∧ ∀ H', Same H H' → Q v H'))
    (hd0 : plainV dd = some vd) (hed : ∀ (cdv : Value) (A : Around) (outer : List PySem.Env) (s : Shared) (H : Hp) (E : XK), PE (bodyC P w K mg base N qual scope f cdv A outer s H E) ed (tC vd)) :
    Df P w K mg base cA x (k + 1) ps.length (tryF N.length g hd dd) := by
  refine ⟨f, fd, ps, rfl, FD.ok S (fun vs H Q E h => h.1) (fun cdv A outer s H vs Q E hr ⟨hl, M, ds, mk, r, h⟩ => ⟨_, eb ▸ pss_cons (L2N.ps_try_as (c := .ref pE) (Wout := fun _ _ _ _ => False) (tb := fun W => tDS ⟨K, cA, fun cls d H => ∀ σ : L2.St, σ.length = N.length → W cls d σ H⟩ g) (ts := tSuite cA hd i)
    rfl rfl S.nd hi (hk cdv A outer s H E) ⟨hG cdv A outer s H E, by decide, .inl hg⟩ (fun _ _ ⟨_, _, _, _, _, _, _, _, _, _, _, _, _, _, _, _, w⟩ => w.elim) ?hB ?hS) (pss_one (ps_ret (hed cdv A outer s H E))), ?hQ⟩), gx, FD.kp, hb⟩
  case hB =>
    intro W pn xe tk po
    have tk' : L2N.Takes ((bodyC P w K mg base N qual scope f cdv A outer s H E).tr pn xe) (fun cls d _ H => ∀ σ : L2.St, σ.length = N.length → W cls d σ H) := fun u s' ⟨a, B, sI, pins, σ, H, cls, d, e, J, nb, up, sky, na, os, ag, w⟩ => tk u s' ⟨a, B, sI, pins, σ, H, cls, d, e, J, nb, up, sky, na, os, ag, w σ J.len⟩
    exact (hbody cdv A outer s H E _ pn xe { K := rfl, nd := S.nd, calm := rfl, room := hr, pass := L2N.passes_call tk' fun _ _ _ _ h => h, own := po, takes := tk' }).pss
  case hS =>
    intro a oe cls d pn hz hf
    refine pss_one ⟨fun pins s1 τ H1 Dn J ⟨n, r, v, ec, en, hn, hv, hs, hq⟩ => ?_⟩
    subst ec; subst en
    exact (ps_ret (hsu cdv A outer s H E n r v a oe pn hr hn hv hz hf)).run pins s1 τ H1 Dn J ⟨hs, hq⟩
  case hQ =>
    refine ⟨⟨M, H, false⟩, M, startE N.length ds, startE_env mk r, ?_⟩
    unfold tryF at h
    cases hg : g (startE N.length ds) with
    | ok res =>
      rw [hg] at h
      obtain ⟨fl, ρ'⟩ := res
      cases fl with
      | nx =>
        intro σ' H' M' sm e'
        exact (show ∀ v H' M', Grow M H M' H' → Rep K M' v dd → Q v H' from h) vd H' M' e'.growth (plainV_rep hd0 M')
      | bk => exact h.elim
      | ct => exact h.elim
      | rt d => exact h.elim
      | rtL xs => exact h.elim
    | exc m =>
      rw [hg] at h
      cases hh : hd m with
      | none => dsimp only at h; rw [hh] at h; exact h.elim
      | some d =>
        dsimp only at h; rw [hh] at h
        obtain ⟨v, hv⟩ := hpl m d hh
        intro H' kp σ hσ
        refine ⟨true, hm m d hh, fun _ a ha => ?_, fun z => by cases z⟩
        have hlt : i < σ.length := by
          rw [hσ]
          exact (List.getElem?_eq_some_iff.mp hi).1
        refine ⟨m, d, v, rfl, rfl, hh, hv, by rw [List.getElem?_set_self hlt], fun H2 s2 => ?_⟩
        have s1 : Same H H2 := kp.same.trans s2
        exact (show ∀ v H' M', Grow M H M' H' → Rep K M' v d → Q v H' from h) v H2 M ⟨s1, Same.refl _, fun b o z => ⟨s1 _ _ (mk b o z).1, (mk b o z).2⟩, fun b o z n => by rw [z] at n; cases n⟩ (plainV_rep hv M)
    | stuck => rw [hg] at h; exact h.elim
end
/-! ### the classes of errors, the words -/
def exN : Nat → Option Str
  | 1 => some "BadCount"
  | 2 => some "BadCases"
  | 3 => some "BadDone"
  | _ => none
def wordX (x : Str) : Str := if x = "BadCount" then "count value" else if x = "BadCases" then "cases value" else "done value"
theorem exN_mem {m : Nat} {x : Str} (h : exN m = some x) : x ∈ [("BadCount" : Str), "BadCases", "BadDone"] := by
  unfold exN at h
  split at h <;> cases h <;> decide
structure FactsX (K : PySem.W.Frag) (mg : Str → Option Value) (fa : List He.Fa) (fn : List He.DefD) (ex : PySem.W.Frag → Bool) : Prop extends Facts K mg fa fn where
  ex : ex K = true
theorem boot_VE : bootBuiltins "ValueError" = some (.type "ValueError") := by decide +kernel
/-- the suites: return f(e); return f(e) == 'word' -/
theorem suite_no {P : Program} {w : World} {X : Cx} (pins : List (Addr × Obj)) (σ : L2.St) (H : Hp) (s : Shared) (e : Value) (s' : Shared) (_ : Inv X pins σ H s) (h : L2N.CX P w X.stack H s (fun _ _ _ => False) e s') : False := by
  obtain ⟨_, _, _, _, _, _, _, _, _, _, _, _, z⟩ := h
  exact z
def hdW (m : Nat) : Option D := (exN m).map fun x => .str (wordX x)
def hdE (z : Str) (m : Nat) : Option D := (exN m).map fun x => .bool (decide (V.str (wordX x) = V.str z))
theorem hdW_some {m : Nat} {r : D} (h : hdW m = some r) : ∃ x, exN m = some x ∧ r = .str (wordX x) := by
  unfold hdW at h
  obtain ⟨x, hx, e⟩ := Option.map_eq_some_iff.mp h
  exact ⟨x, hx, e.symm⟩
theorem hdE_some {z : Str} {m : Nat} {r : D} (h : hdE z m = some r) : ∃ x, exN m = some x ∧ r = .bool (decide (V.str (wordX x) = V.str z)) := by
  unfold hdE at h
  obtain ⟨x, hx, e⟩ := Option.map_eq_some_iff.mp h
  exact ⟨x, hx, e.symm⟩
theorem pe_eqW {X : Cx} {e : Expr} {i j : Nat} {a : Addr} {x z : Str} {p1 pos : Pos} (h : PE X e (fun σ H Q => σ[i]? = some (some (.ref a)) ∧ ∀ H', Same H H' → Q (.str (wordX x)) H')) :
    PE X (.Compare e [.Eq] [.Constant (.str z) j p1] pos) (fun σ H Q => σ[i]? = some (some (.ref a)) ∧ ∀ H', Same H H' → Q (.bl (decide (V.str (wordX x) = V.str z))) H') :=
  PE.imp (pe_cmpR op_eq h pe_str (nomark _)) fun σ H Q ⟨h1, h2⟩ => ⟨h1, fun H' s => ⟨rfl, h2 H' s⟩⟩
end PL

set_option Elab.async false
set_option linter.all false
set_option maxRecDepth 100000
set_option maxHeartbeats 4000000
/-! plain: laws of the combinators' values -/
namespace PL
open PySem

/-! ### data without truth values: equal is equal -/
mutual
def exact : D → Bool
  | .bool _ => false
  | .dict _ => false
  | .list xs => exacts xs
  | .tuple xs => exacts xs
  | _ => true
def exacts : List D → Bool
  | [] => true
  | x :: xs => exact x && exacts xs
end
mutual
theorem eqv_exact : ∀ (x y : D), exact x = true → exact y = true → (PyData.eqv x y = true ↔ x = y)
  | .none, y, _, hy => by cases y <;> simp [PyData.eqv, exact] at *
  | .bool _, y, hx, _ => by simp [exact] at hx
  | .int i, y, _, hy => by cases y <;> simp [PyData.eqv, exact] at *
  | .str s, y, _, hy => by cases y <;> simp [PyData.eqv, exact] at *
  | .list xs, y, hx, hy => by
    cases y with
    | list ys => rw [PyData.eqv, eqvs_exact xs ys (by simpa [exact] using hx) (by simpa [exact] using hy), PyData.list.injEq]
    | _ => simp [PyData.eqv]
  | .tuple xs, y, hx, hy => by
    cases y with
    | tuple ys => rw [PyData.eqv, eqvs_exact xs ys (by simpa [exact] using hx) (by simpa [exact] using hy), PyData.tuple.injEq]
    | _ => simp [PyData.eqv]
  | .dict _, y, hx, _ => by simp [exact] at hx
theorem eqvs_exact : ∀ (xs ys : List D), exacts xs = true → exacts ys = true → (PyData.eqvAll xs ys = true ↔ xs = ys)
  | [], [], _, _ => by simp [PyData.eqvAll]
  | [], _ :: _, _, _ => by simp [PyData.eqvAll]
  | _ :: _, [], _, _ => by simp [PyData.eqvAll]
  | x :: xs, y :: ys, hx, hy => by
    simp only [exacts, Bool.and_eq_true] at hx hy
    rw [PyData.eqvAll, Bool.and_eq_true, eqv_exact x y hx.1 hy.1, eqvs_exact xs ys hx.2 hy.2, List.cons.injEq]
end
theorem exacts_iff : ∀ {xs : List D}, exacts xs = true ↔ ∀ x ∈ xs, exact x = true
  | [] => by simp [exacts]
  | x :: xs => by simp [exacts, exacts_iff (xs := xs)]
/-! ### shapes -/
def sh (n : Nat) (d : D) : Prop := d.canLay0 = true ∧ d.depth ≤ n
theorem sh_up {n m : Nat} {d : D} (h : sh n d) (k : n ≤ m) : sh m d := ⟨h.1, Nat.le_trans h.2 k⟩
theorem shaped_sh {n : Nat} {d : D} (h : sh n d) (k : n ≤ 64 := by decide) : SeqAt.shaped d = true := by
  unfold SeqAt.shaped
  rw [h.1, Bool.true_and, decide_eq_true_eq]
  exact Nat.le_trans h.2 k
theorem sh_of_shaped {d : D} (h : SeqAt.shaped d = true) : sh 64 d := ⟨SeqAt.canLay_of_shaped h, SeqAt.depth_of_shaped h⟩
theorem canAll_iff : ∀ {xs : List D}, PyData.canLayAll0 xs = true ↔ ∀ x ∈ xs, x.canLay0 = true
  | [] => by simp [PyData.canLayAll0]
  | x :: xs => by simp [PyData.canLayAll0, canAll_iff (xs := xs)]
theorem depthAll_le {n : Nat} : ∀ {xs : List D}, (∀ x ∈ xs, x.depth ≤ n) → PyData.depthAll xs ≤ n
  | [], _ => by simp [PyData.depthAll]
  | x :: xs, h => by
    simp only [PyData.depthAll, Nat.max_le]
    exact ⟨h x (List.mem_cons_self ..), depthAll_le fun y hy => h y (List.mem_cons_of_mem _ hy)⟩
theorem depthAll_ge {n : Nat} : ∀ {xs : List D}, PyData.depthAll xs ≤ n → ∀ x ∈ xs, x.depth ≤ n
  | [], _, x, hx => by simp at hx
  | y :: xs, h, x, hx => by
    simp only [PyData.depthAll, Nat.max_le] at h
    rcases List.mem_cons.mp hx with rfl | hx
    · exact h.1
    · exact depthAll_ge h.2 x hx
theorem sh_list {n : Nat} {xs : List D} (h : ∀ x ∈ xs, sh n x) : sh (n + 1) (.list xs) := by
  refine ⟨by rw [PyData.canLay0]; exact canAll_iff.mpr fun x hx => (h x hx).1, ?_⟩
  rw [PyData.depth]
  exact Nat.succ_le_succ (depthAll_le fun x hx => (h x hx).2)
theorem sh_tuple {n : Nat} {xs : List D} (h : ∀ x ∈ xs, sh n x) : sh (n + 1) (.tuple xs) := by
  refine ⟨by rw [PyData.canLay0]; exact canAll_iff.mpr fun x hx => (h x hx).1, ?_⟩
  rw [PyData.depth]
  exact Nat.succ_le_succ (depthAll_le fun x hx => (h x hx).2)
theorem sh_of_list {n : Nat} {xs : List D} (h : sh (n + 1) (.list xs)) : ∀ x ∈ xs, sh n x := fun x hx => by
  obtain ⟨h1, h2⟩ := h
  rw [PyData.canLay0] at h1
  rw [PyData.depth] at h2
  exact ⟨canAll_iff.mp h1 x hx, depthAll_ge (Nat.le_of_succ_le_succ h2) x hx⟩
theorem sh_of_tuple {n : Nat} {xs : List D} (h : sh (n + 1) (.tuple xs)) : ∀ x ∈ xs, sh n x := fun x hx => by
  obtain ⟨h1, h2⟩ := h
  rw [PyData.canLay0] at h1
  rw [PyData.depth] at h2
  exact ⟨canAll_iff.mp h1 x hx, depthAll_ge (Nat.le_of_succ_le_succ h2) x hx⟩
theorem sh_int {n : Nat} (i : Int) : sh n (.int i) := ⟨rfl, Nat.zero_le _⟩
theorem sh_bool {n : Nat} (i : Bool) : sh n (.bool i) := ⟨rfl, Nat.zero_le _⟩
theorem sh_none {n : Nat} : sh n .none := ⟨rfl, Nat.zero_le _⟩
theorem sh_str {n : Nat} {x : Str} (h : PyData.canLay0 (.str x) = true) : sh n (.str x) := ⟨h, Nat.zero_le _⟩
theorem sh_ints {n : Nat} (l : List Int) : ∀ x ∈ l.map PyData.int, sh n x := fun x hx => by
  obtain ⟨i, _, rfl⟩ := List.mem_map.mp hx
  exact sh_int i
theorem exact_ints (l : List Int) : exacts (l.map PyData.int) = true := exacts_iff.mpr fun x hx => by
  obtain ⟨i, _, rfl⟩ := List.mem_map.mp hx
  rfl
theorem map_int_inj {a b : List Int} : a.map PyData.int = b.map PyData.int ↔ a = b :=
  ⟨fun h => (List.map_inj_right fun x y e => PyData.int.inj e).mp h, fun h => by rw [h]⟩
/-- == -/
theorem dEq_sh {n m : Nat} {x y : D} (hx : sh n x) (hy : sh m y) (k : n ≤ 64 := by decide) (k' : m ≤ 64 := by decide) : dEq x y = .ok (.bool (PyData.eqv x y)) := by
  unfold dEq
  rw [shaped_sh hx k, shaped_sh hy k']
  rfl
theorem dNe_sh {n m : Nat} {x y : D} (hx : sh n x) (hy : sh m y) (k : n ≤ 64 := by decide) (k' : m ≤ 64 := by decide) : dNe x y = .ok (.bool (!PyData.eqv x y)) := by
  unfold dNe
  rw [shaped_sh hx k, shaped_sh hy k']
  rfl
theorem dEq_ex {n m : Nat} {x y : D} (hx : sh n x) (hy : sh m y) (ex : exact x = true) (ey : exact y = true) {b : Bool} (hb : b = true ↔ x = y) (k : n ≤ 64 := by decide) (k' : m ≤ 64 := by decide) : dEq x y = .ok (.bool b) := by
  rw [dEq_sh hx hy k k']
  have e : PyData.eqv x y = b := by rw [Bool.eq_iff_iff, eqv_exact x y ex ey, hb]
  rw [e]
theorem dNe_ex {n m : Nat} {x y : D} (hx : sh n x) (hy : sh m y) (ex : exact x = true) (ey : exact y = true) {b : Bool} (hb : b = true ↔ x = y) (k : n ≤ 64 := by decide) (k' : m ≤ 64 := by decide) : dNe x y = .ok (.bool (!b)) := by
  rw [dNe_sh hx hy k k']
  have e : PyData.eqv x y = b := by rw [Bool.eq_iff_iff, eqv_exact x y ex ey, hb]
  rw [e]
theorem dEq_int (i j : Int) : dEq (.int i) (.int j) = .ok (.bool (decide (i = j))) := by
  rw [dEq_sh (n := 0) (m := 0) (sh_int i) (sh_int j)]
  simp only [PyData.eqv]
  rfl
theorem dNe_int (i j : Int) : dNe (.int i) (.int j) = .ok (.bool (!decide (i = j))) := by
  rw [dNe_sh (n := 0) (m := 0) (sh_int i) (sh_int j)]
  simp only [PyData.eqv]
  rfl
/-! ### isinstance -/
theorem isi_int (t : D) (h : tyD t ≠ none) : dIsi "int" t = .ok (.bool (match t with | .int _ => true | .bool _ => true | _ => false)) := by
  cases t <;> first | rfl | skip
  rename_i kv
  cases kv
  · rfl
  · exact absurd rfl h
theorem isi_bool (t : D) (h : tyD t ≠ none) : dIsi "bool" t = .ok (.bool (match t with | .bool _ => true | _ => false)) := by
  cases t <;> first | rfl | skip
  rename_i kv
  cases kv
  · rfl
  · exact absurd rfl h
theorem isi_tuple (t : D) (h : tyD t ≠ none) : dIsi "tuple" t = .ok (.bool (match t with | .tuple _ => true | _ => false)) := by
  cases t <;> first | rfl | skip
  rename_i kv
  cases kv
  · rfl
  · exact absurd rfl h
theorem isi_list (t : D) (h : tyD t ≠ none) : dIsi "list" t = .ok (.bool (match t with | .list _ => true | _ => false)) := by
  cases t <;> first | rfl | skip
  rename_i kv
  cases kv
  · rfl
  · exact absurd rfl h
theorem ty_of_sh {n : Nat} {t : D} (h : sh n t) : tyD t ≠ none := by
  cases t <;> first | simp [tyD] | skip
  exact absurd h.1 (by simp [PyData.canLay0])
/-! ### blocks -/
theorem eachR_map {α β : Type} {step : α → R (List β)} {f : α → β} : ∀ {xs : List α}, (∀ x ∈ xs, step x = .ok [f x]) → eachR step xs = .ok (xs.map f)
  | [], _ => rfl
  | x :: xs, h => by
    rw [eachR, h x (List.mem_cons_self ..), R.bind_ok, eachR_map fun y hy => h y (List.mem_cons_of_mem _ hy), R.bind_ok]
    rfl
theorem eachR_filter {α β : Type} {step : α → R (List β)} {p : α → Bool} {f : α → β} : ∀ {xs : List α}, (∀ x ∈ xs, step x = .ok (if p x = true then [f x] else [])) → eachR step xs = .ok ((xs.filter p).map f)
  | [], _ => rfl
  | x :: xs, h => by
    rw [eachR, h x (List.mem_cons_self ..), R.bind_ok, eachR_filter (p := p) (f := f) fun y hy => h y (List.mem_cons_of_mem _ hy), R.bind_ok]
    by_cases hp : p x = true <;> simp [hp]
theorem noE_of {α : Type} {r : R α} {a : α} (h : r = .ok a) : noE r = .ok a := by rw [h]; rfl
theorem eachR_mem {α β : Type} {step : α → R (List β)} : ∀ {xs : List α} {ys : List β}, eachR step xs = .ok ys → ∀ x ∈ xs, ∃ o, step x = .ok o
  | [], _, _, x, hx => by simp at hx
  | y :: xs, ys, h, x, hx => by
    rw [eachR] at h
    cases hs : step y with
    | ok o =>
      rw [hs, R.bind_ok] at h
      cases hr : eachR step xs with
      | ok z =>
        rcases List.mem_cons.mp hx with rfl | hx
        · exact ⟨o, hs⟩
        · exact eachR_mem hr x hx
      | exc n => rw [hr, R.bind_exc] at h; cases h
      | stuck => rw [hr, R.bind_stuck] at h; cases h
    | exc n => rw [hs, R.bind_exc] at h; cases h
    | stuck => rw [hs, R.bind_stuck] at h; cases h
/-! ### places -/
theorem dIx_list {xs : List D} {i : Int} {y : D} (h0 : 0 ≤ i) (h : xs[i.toNat]? = some y) : dIx (.list xs) (.int i) = .ok y := by
  have hl : i.toNat < xs.length := (List.getElem?_eq_some_iff.mp h).1
  simp only [dIx, itemsOf, L2.atI, L2.ixN]
  rw [if_pos h0, if_pos (by omega)]
  simp only [Option.bind_some, h]
theorem dIx_tup {xs : List D} {i : Int} {y : D} (h0 : 0 ≤ i) (h : xs[i.toNat]? = some y) : dIx (.tuple xs) (.int i) = .ok y := by
  have hl : i.toNat < xs.length := (List.getElem?_eq_some_iff.mp h).1
  simp only [dIx, itemsOf, L2.atI, L2.ixN]
  rw [if_pos h0, if_pos (by omega)]
  simp only [Option.bind_some, h]
theorem dIx_scr {xs : List D} {i : Int} {y : D} (h0 : 0 ≤ i) (h : xs[i.toNat]? = some y) : dIx (.dict [(.none, .list xs)]) (.int i) = .ok y := by
  have hl : i.toNat < xs.length := (List.getElem?_eq_some_iff.mp h).1
  simp only [dIx, itemsOf, L2.atI, L2.ixN]
  rw [if_pos h0, if_pos (by omega)]
  simp only [Option.bind_some, h]
theorem dIx_t0 (a : D) (r : List D) : dIx (.tuple (a :: r)) (.int 0) = .ok a := dIx_tup (by decide) rfl
theorem dIx_t1 (a b : D) (r : List D) : dIx (.tuple (a :: b :: r)) (.int 1) = .ok b := dIx_tup (by decide) rfl
theorem dIx_l0 (a : D) (r : List D) : dIx (.list (a :: r)) (.int 0) = .ok a := dIx_list (by decide) rfl
theorem dIx_l1 (a b : D) (r : List D) : dIx (.list (a :: b :: r)) (.int 1) = .ok b := dIx_list (by decide) rfl
/-- one of a display, by a number at large -/
def pick (xs : List D) (c k : Int) : D := xs.getD (c % k).toNat .none
theorem dIx_pick {xs : List D} {c k : Int} (hk : (xs.length : Int) = k) (h0 : 0 < k) : dIx (.list xs) (.int (c % k)) = .ok (pick xs c k) := by
  have h1 := Int.emod_nonneg c (show k ≠ 0 by omega)
  have h2 := Int.emod_lt_of_pos c h0
  have hl : (c % k).toNat < xs.length := by omega
  refine dIx_list h1 ?_
  unfold pick
  rw [List.getD_eq_getElem?_getD, List.getElem?_eq_getElem hl]
  rfl
theorem pick_mem {xs : List D} {c k : Int} (hk : (xs.length : Int) = k) (h0 : 0 < k) : pick xs c k ∈ xs := by
  have h1 := Int.emod_nonneg c (show k ≠ 0 by omega)
  have h2 := Int.emod_lt_of_pos c h0
  have hl : (c % k).toNat < xs.length := by omega
  unfold pick
  rw [List.getD_eq_getElem?_getD, List.getElem?_eq_getElem hl]
  exact List.getElem_mem hl
/-- one of a display -/
theorem dIx_mem {xs : List D} {i : Int} (h0 : 0 ≤ i) (h : i < xs.length) : ∃ y ∈ xs, dIx (.list xs) (.int i) = .ok y := by
  have hl : i.toNat < xs.length := by omega
  exact ⟨xs[i.toNat], List.getElem_mem hl, dIx_list h0 (List.getElem?_eq_getElem hl)⟩
end PL

set_option Elab.async false
set_option linter.all false
set_option maxRecDepth 100000
set_option maxHeartbeats 4000000
/-! the end -/
namespace PL
open PySem PySem.Spec PyProof.Rows L2
theorem only_mok {H : Hp} (h : Only H) : MOk H H := fun a o e => by
  refine ⟨e, ?_⟩
  rcases h a with z | ⟨o', xs, z⟩
  · rw [z] at e; cases e
  · rw [z] at e; cases e; rfl
theorem spD_law {K : PySem.W.Frag} {cA : Nat → Addr} {F : List D → R D} {H : Hp} {a : Addr} {ns : List Int} (hO : Only H) (hS : SqL K H a (ns.map V.int)) (hF : F [.dict [(.none, .list (ns.map PyData.int))]] = .ok (.bool true)) :
    spD K cA 1 F [.ref a] H (fun v _ => v = .bl true) (fun _ _ _ => False) := by
  refine ⟨rfl, H, _, only_mok hO, .cons (.scr hS (Reps.of_ints ns)) .nil, ?_⟩
  rw [hF]
  intro v H' M' g r
  cases r
  rfl
/-- from the law's promise to what the head leaves; what may be let out may hang on the world -/
theorem walk_ofX {l : PySem.W.OpenLaw} {k : Nat} {q : Program} {loose : List Str} {XP : (Str → Option Value) → Heap → Prop} {YP : World → Heap → Prop} {d : DefRec} {x : Str} (hn : l.most = some 63) (hdf : d.params.defaults = []) (hr : Room k callerA)
    (F : ∀ (w : World) (mg : Str → Option Value) (f : Addr) (h : Heap), YP w h → h.Ns mainGlobals mg → mg d.name = some (.ref f) → ∃ (K : PySem.W.Frag) (fd : FuncData) (cA : Nat → Addr) (G : List D → R D), K.In h ∧ (∀ (s : Shared) (u : Value), BindsTo s fd ⟨[u], []⟩ [(x, u)]) ∧
      (∀ ns : List Int, G [.dict [(.none, .list (ns.map PyData.int))]] = .ok (.bool true)) ∧ ∀ base : Heap, K.In base → base.Ns mainGlobals mg → FnOk l.prog w K mg base (L2N.CX l.prog w) k f fd [x] (spD K cA 1 G)) :
    PySem.W.WalkO q loose XP YP l.row.toRowW d [] (fun f vs => PySem.call f vs) := by
  refine Att.attach_call hn hdf fun w t0 t1 mg mb f ob pm cd doc a us ns Gv Yv ho hd1 hcd hmg hob hin hlen hgs => ?_
  obtain ⟨K, fd, cA, G, kx, hb, hG, hF⟩ := F w mg f _ Yv Gv.T.g hmg
  refine law_call kx Gv.T.g Gv.T.b Gv.T.builtins Gv.T.nolimit hgs hob hin ?_ hr hF hb ?_ ?_
  · exact Nat.le_trans hlen (by decide)
  · exact fun H hO hS => spD_law hO hS (hG ns)
  · rintro H e s' ⟨_, _, _, _, _, _, _, _, _, _, _, _, z⟩
    exact z
end PL

set_option Elab.async false
set_option linter.all false
set_option maxRecDepth 100000
set_option maxHeartbeats 4000000
/-! str(x) in the law's own def: nothing is being shown there, sys.modules stands apart -/
namespace PL
open PySem PySem.Spec PyProof.Rows L2
/-- what the law's body knows of its caller -/
structure StrOk (X : Cx) : Prop where
  gd : X.A.guards = some []
  sys : ∃ o es ep, X.s_0.heap.get? sysModules = some o ∧ o.data = .dict es ep
  no : X.H_0 sysModules = none
  fs : X.fs = []
  ex : X.ex = []
section
variable {B : ObjB} {X : Cx} {c : Ctx B} {pos : Pos} {K : PySem.W.Frag} {I : Ent} {M H M' H' : Hp} {σ σ' : L2.St} {ρ ρ' : Env B}
theorem StrOk.now {pins : List (Addr × Obj)} {s : Shared} (S : StrOk X) (J : Inv X pins σ H s) : ∃ o es ep, s.heap.get? sysModules = some o ∧ o.data = .dict es ep := by
  obtain ⟨o, es, ep, h1, h2⟩ := S.sys
  exact ⟨o, es, ep, J.base.keep _ _ h1 S.no (by rw [S.fs]; simp) (by rw [S.ex]; simp), h2⟩
mutual
/-- data that may be shown: no script within -/
def showD : D → Bool
  | .dict [] => true
  | .dict (_ :: _) => false
  | .list xs => showDs xs
  | .tuple xs => showDs xs
  | .str x => PyData.strOk x && PyData.strOk (PySem.reprText x)
  | .int i => decide (i.natAbs.log2 < 1920)
  | _ => true
def showDs : List D → Bool
  | [] => true
  | x :: xs => showD x && showDs xs
end
mutual
theorem showD_able : ∀ {d : D}, showD d = true → d.showable = true
  | .none, _ => rfl
  | .bool _, _ => rfl
  | .int i, h => h
  | .str _, _ => rfl
  | .list xs, h => by rw [PyData.showable]; exact showDs_able (by simpa [showD] using h)
  | .tuple xs, h => by rw [PyData.showable]; exact showDs_able (by simpa [showD] using h)
  | .dict [], _ => rfl
  | .dict (_ :: _), h => by cases h
theorem showDs_able : ∀ {ds : List D}, showDs ds = true → PyData.showableAll ds = true
  | [], _ => rfl
  | x :: xs, h => by
    have h2 := He.ba (show (showD x && showDs xs) = true from h)
    rw [PyData.showableAll, showD_able h2.1, showDs_able h2.2]
    rfl
end
mutual
theorem Rep.reads {pins : List (Addr × Obj)} {s : Shared} (J : Inv X pins σ H s) (hs : ∃ o es ep, s.heap.get? sysModules = some o ∧ o.data = .dict es ep) (mk : MOk M H) : ∀ {v : V} {d : D} {u : Value}, showD d = true → Rep X.K M v d → RelV v u → ∃ as, Reads s.heap u d as ∧ sysModules ∉ as
  | _, _, _, _, .non, r => by cases r; exact ⟨_, .none, by simp⟩
  | _, _, _, _, .bl b, r => by cases r; exact ⟨_, .bool b, by simp⟩
  | _, _, _, _, .int i, r => by obtain ⟨t, rfl⟩ := r; exact ⟨_, .int i t, by simp⟩
  | _, _, _, _, .str x, r => by obtain ⟨t, rfl⟩ := r; exact ⟨_, .str x t, by simp⟩
  | _, _, _, e, .lst (a := a) h q, r => by
    cases r
    obtain ⟨its, rv, ⟨o, n, ho, hc, _, hd⟩, _⟩ := J.list (SqL.of (mk.same _ _ h))
    obtain ⟨as, h1, h2⟩ := Reps.readsAll J hs mk (by simpa [showD] using e) q rv
    refine ⟨_, .list ho hc hd h1, fun z => ?_⟩
    rcases List.mem_cons.mp z with z | z
    · obtain ⟨o', es, ep, e1, e2⟩ := hs
      rw [z, ho] at e1
      cases e1
      rw [hd] at e2
      cases e2
    · exact h2 z
  | _, _, _, e, .scr _ _, _ => by simp [showD] at e
  | _, _, _, e, .tup h q, r => by
    cases r
    obtain ⟨its, rv, ⟨o, ho, hc, n, hd⟩, _⟩ := J.tuple (sqT_same mk.same h)
    obtain ⟨as, h1, h2⟩ := Reps.readsAll J hs mk (by simpa [showD] using e) q rv
    exact ⟨_, .tuple ho hc hd h1, h2⟩
  | _, _, _, _, .dic (a := a) h, r => by
    cases r
    obtain ⟨_, hne, vs, kv, o, es, ep, ho, hx, hd, _, hp, _⟩ := J.hok a _ (mk.same _ _ h)
    cases kv
    have e0 : es.toList = [] := by cases hp' : es.toList with
      | nil => rfl
      | cons x r => rw [hp'] at hp; cases hp
    refine ⟨a :: [] ++ [], .dict ho hx.1 hd (by rw [e0]; exact .nil) (by rw [e0]; exact .nil), fun z => ?_⟩
    have z' : sysModules = a := by simpa using z
    rw [← z'] at hne
    exact absurd hne (by decide)
theorem Reps.readsAll {pins : List (Addr × Obj)} {s : Shared} (J : Inv X pins σ H s) (hs : ∃ o es ep, s.heap.get? sysModules = some o ∧ o.data = .dict es ep) (mk : MOk M H) : ∀ {vs : List V} {ds : List D} {us : List Value}, showDs ds = true → Reps X.K M vs ds → Vals vs us → ∃ as, ReadsAll s.heap us ds as ∧ sysModules ∉ as
  | _, _, _, _, .nil, r => by cases r; exact ⟨_, .nil, by simp⟩
  | _, d :: ds, _, e, .cons h t, r => by
    have e' := He.ba (show (showD d && showDs ds) = true from e)
    cases r with
    | cons r1 r2 =>
      obtain ⟨as, q1, n1⟩ := Rep.reads J hs mk e'.1 h r1
      obtain ⟨bs, q2, n2⟩ := Reps.readsAll J hs mk e'.2 t r2
      exact ⟨_, .cons q1 q2, fun z => (List.mem_append.mp z).elim n1 n2⟩
end
/-- str(x) -/
def strOfD : D → Str
  | .str x => x
  | d => d.shown
def dStr : List D → R D
  | [d] => if (showD d && (decide (d.depth ≤ 60) && decide (d.shown.length ≤ 4000000))) = true then .ok (.str (strOfD d)) else .stuck
  | _ => .stuck
def rStrD (K : PySem.W.Frag) : List V → Hp → VK → Prop := fun xs H Q => ∃ M v d, xs = [v] ∧ MOk M H ∧ Rep K M v d ∧ (showD d && (decide (d.depth ≤ 60) && decide (d.shown.length ≤ 4000000))) = true ∧ Q (.str (strOfD d)) H
theorem call_strD {k : Nat} (S : StrOk X) (hr : Room k X.A) : CallR X (.type "str") (rStrD X.K) := by
  intro pins s τ H0 xs us Q J r h
  obtain ⟨M, v, d, rfl, mk, rp, hd, q⟩ := h
  obtain ⟨u, rfl, ru⟩ : ∃ u, us = [u] ∧ RelV v u := by
    cases r with
    | cons r0 r1 => cases r1; exact ⟨_, rfl, r0⟩
  obtain ⟨h1, h2⟩ := He.ba hd
  obtain ⟨h2, h3⟩ := He.ba h2
  have h2 := of_decide_eq_true h2
  have h3 := of_decide_eq_true h3
  have fit : d.shown.length ≤ sizeLine := Nat.le_trans h3 (by decide)
  have byRef : ∀ a : Addr, v = .ref a → strOfD d = d.shown → wpAny (model X.prog X.w) X.A (PySem.call (.type "str") [u]) (EP X pins τ Q) X.xe s := fun a ea es => by
    subst ea
    cases (show u = .ref a from ru)
    obtain ⟨as, rd, ns⟩ := Rep.reads J (S.now J) mk h1 rp rfl
    have hu := hr.un
    refine str_of_reads (h₀ := s.heap) rd (showD_able h1) (fun _ => ns) S.gd (by omega) (fun b o e => e) (fun h' t tk hk => ?_) fit
    exact ⟨.str _, H0, J.kept (t' := tk) hk, ⟨t, by rw [es]⟩, q⟩
  cases rp with
  | non => cases ru; exact PySem.P.str_of_none ⟨.str _, H0, J.tok _, ⟨_, rfl⟩, q⟩
  | bl b => cases ru; exact PySem.P.str_of_bool ⟨.str _, H0, J.tok _, ⟨_, rfl⟩, q⟩
  | int i =>
    obtain ⟨t, rfl⟩ := ru
    exact PySem.P.str_of_int (of_decide_eq_true (show decide (i.natAbs.log2 < 1920) = true from h1)) ⟨.str _, H0, J.tok _, ⟨_, rfl⟩, q⟩
  | str x =>
    obtain ⟨t, rfl⟩ := ru
    exact PySem.P.str_of_str ⟨.str x, H0, J, ⟨t, rfl⟩, q⟩
  | lst hl hq => exact byRef _ rfl rfl
  | scr hl hq => cases h1
  | tup hl hq => exact byRef _ rfl rfl
  | dic hl => exact byRef _ rfl rfl
theorem de_strc {e : Expr} {f : Env B → R (List D)} {p : Pos} {k : Nat} (G : Good X c k) (S : StrOk X) (hm : X.mg "str" = none) (ha : DA X c [e] f) (hg : Gl X "str" := by rfl) (he : starEach [e] X.env = (false, eval e X.env) :: starEach [] X.env := by rfl) (hpl : (backTo pos (starEach [] X.env)).any (·.1) = false := by rfl) :
    DE X c (.Call (.Name "str" p) [e] [] pos) (eA dStr f) := by
  refine ⟨PE.imp (pe_callTy (call_strD S G.room) hg hm boot_strT ha.pa (he := he) (hpl := hpl)) fun σ H Q ⟨I, M, ρ, e, q⟩ => ?_⟩
  refine ⟨I, M, ρ, e, q.bind.mono fun x hx vs H1 M1 k1 e1 r1 => ?_⟩
  obtain ⟨d, hd, hp⟩ := hx.noE
  unfold dStr at hd
  split at hd
  · split at hd
    · rename_i hc
      cases hd
      cases r1 with
      | cons r0 r2 =>
        cases r2
        exact ⟨M1, _, _, rfl, e1.mok, G.K ▸ r0, hc, hp _ H1 M1 k1 e1 (.str _)⟩
    · cases hd
  · cases hd
end

/-! ### the end, where the law's def says str(x) -/
theorem ns_hid {h : Heap} {H : Hp} {b : Addr} {m : Str → Option Value} (hn : ∀ b o es ep, h.get? b = some o → o.data = .dict es ep → H b = none) (N : h.Ns b m) : (hidT h H).Ns b m := by
  obtain ⟨o, es, ep, e, d, r⟩ := N
  exact ⟨o, es, ep, hidT_get e (hn b o es ep e d), d, r⟩
theorem law_runs {P : Program} {w : World} {K : PySem.W.Frag} {mg mb : Str → Option Value} {cA : Nat → Addr} {k : Nat} {f a : Addr} {fd : FuncData} {y x qual : Str} {params : Arguments} {body : List Stmt} {scope : Scope} {kws : List (Str × V)} {N : List Str} {g : GS noObj} {t : Shared} {us : List Value} {ns : List Int}
    (kx : K.In t.heap) (n1 : t.heap.Ns mainGlobals mg) (n2 : t.heap.Ns builtinsNs mb) (n3 : ∀ x : Str, x ≠ "__name__" → mb x = bootBuiltins x) (n4 : t.heap.NoLimit) (n5 : ∃ mm, t.heap.Ns sysModules mm) (ng : t.gens = #[])
    (hob : t.heap.get? a = some { cls := .type "list", data := .seq us.toArray }) (hin : IntsAre us ns) (hl : ns.length ≤ sizeLine) (hr : Room (k + 1) callerA)
    (FD : FunD K y qual params body scope [] kws f fd) (S : FnScope N [x] scope) (hb : ∀ (s : Shared) (u : Value), BindsTo s fd ⟨[u], []⟩ [(x, u)])
    (hbody : ∀ base : Heap, K.In base → base.Ns mainGlobals mg → ∀ (cdv : Value) (s : Shared) (H : Hp) (E : XK), StrOk (bodyC P w K mg base N qual scope f cdv callerA [] s H E) → GoodS (B := noObj) (bodyC P w K mg base N qual scope f cdv callerA [] s H E) ⟨K, cA, E⟩ k →
      DSs (bodyC P w K mg base N qual scope f cdv callerA [] s H E) ⟨K, cA, E⟩ body g)
    (hF : runF N.length g [.dict [(.none, .list (ns.map PyData.int))]] = .ok (.bool true)) :
    codeAny (model P w) callerA (.call (.ref f) ⟨[.ref a], []⟩) (fun r s' => r = .ok (.ret (.bool true)) ∧ OldK t.heap s'.heap ∧ s'.os = t.os ∧ AllBare s'.gens) t := by
  -- from a heap in which at most the script is tracked
  have core : ∀ H : Hp, Only H → SqL K H a (ns.map V.int) → HOk P w H t.heap → (∀ b, H b ≠ none → b = a) → (H a ≠ none → K.lookup a = none) → codeAny (model P w) callerA (.call (.ref f) ⟨[.ref a], []⟩) (fun r s' => r = .ok (.ret (.bool true)) ∧ OldK t.heap s'.heap ∧ s'.os = t.os ∧ AllBare s'.gens) t := by
    intro H hO hS hok only hK
    have dno : ∀ b o es ep, t.heap.get? b = some o → o.data = .dict es ep → H b = none := fun b o es ep e d => by
      cases q : H b with
      | none => rfl
      | some z =>
        cases only b (by rw [q]; exact Option.some_ne_none _)
        rw [hob] at e
        cases e
        cases d
    have kb : K.In (hidT t.heap H) := fun b o e => hidT_get (kx b o e) (by
      cases q : H b with
      | none => rfl
      | some z =>
        cases only b (by rw [q]; exact Option.some_ne_none _)
        rw [hK (by rw [q]; exact Option.some_ne_none _)] at e
        cases e)
    have lim : (hidT t.heap H).NoLimit := by
      obtain ⟨mc, l1, l2⟩ := n4
      exact ⟨mc, ns_hid dno l1, l2⟩
    have md : Mod K mg (hidT t.heap H) := ⟨kb, ns_hid dno n1, ⟨mb, ns_hid dno n2, n3⟩, lim⟩
    have e0 : Env0 P w K mg (hidT t.heap H) callerA [] t H := ⟨rfl, md, fun b o e => of_hidT e, Nat.le_of_eq (hidT_size _ _), trivial, (fun b z => absurd (show b ∈ ([] : List Addr) from z) (List.not_mem_nil)), hok, .of_eq ng⟩
    obtain ⟨oc, od, dV, kV, doc, pm, an, cdv, ct, osl, rfl, lk, hcd, _, _⟩ := FD.ex
    have hkd : ∀ q ∈ [(x, Value.ref a)], scope.names.lookup q.1 = some .local ∨ (scope.names.lookup q.1 = some .cell ∧ ((cellsFrom (t.heap.objs.size + 1) scope.names []).lookup q.1).isSome = true) := fun q hq => by
      rw [List.mem_singleton] at hq
      subst hq
      exact (S.par x (List.mem_singleton.mpr rfl)).imp id fun h => ⟨h, PySem.W.cellsFrom_some _ _ _ (.inl h)⟩
    refine codeAny_call_function (by decide) (kx _ _ lk) rfl S.co S.gen rfl (PySem.W.codeRec_of kx hcd) (hb t (.ref a) _ _ _ _ ?_)
    refine wpAny_newFunctionEnv_cells S.kind hkd fun env he s1 xc => ?_
    subst he
    refine ⟨n4.keeps xc.toInCall.keep, codeAny_func ?_⟩
    have J : Inv (bodyC P w K mg (hidT t.heap H) N qual scope f cdv callerA [] t H (fun _ _ _ => False)) [] (L2.start N [.ref a]) H s1 := inv_start (ps := [x]) (us := [.ref a]) S hr.hd e0 rfl (.cons rfl .nil) xc
    have so : StrOk (bodyC P w K mg (hidT t.heap H) N qual scope f cdv callerA [] t H (fun _ _ _ => False)) := by
      obtain ⟨mm, o, es, ep, m1, m2, _⟩ := n5
      exact ⟨rfl, ⟨o, es, ep, m1, m2⟩, dno _ _ _ _ m1 m2, rfl, rfl⟩
    have q0 : tDS ⟨K, cA, fun _ _ _ => False⟩ g { nx := fun _ _ => False, rt := fun v _ => v = .bl true } (L2.start N [.ref a]) H := by
      refine ⟨⟨H, H, false⟩, H, startE N.length [.dict [(.none, .list (ns.map PyData.int))]], startE_env (only_mok hO) (.cons (.scr hS (Reps.of_ints ns)) .nil), ?_⟩
      unfold runF at hF
      cases hg : g (startE N.length [.dict [(.none, .list (ns.map PyData.int))]]) with
      | ok res =>
        rw [hg] at hF
        obtain ⟨fl, ρ'⟩ := res
        cases fl with
        | rt d =>
          cases hF
          intro v σ' H' M' sm e' r
          cases r
          rfl
        | nx => cases hF
        | bk => cases hF
        | ct => cases hF
        | rtL xs => cases hF
      | exc n => rw [hg] at hF; cases hF
      | stuck => rw [hg] at hF; cases hF
    refine wpAny_mono ((hbody _ kb (ns_hid dno n1) cdv t H _ so (good_body S.nd (hr.deeper _))).pss.run [] s1 _ H _ J q0) (fun fl s' hs => ?_) fun e s' hs => ?_
    · cases fl with
      | ret u =>
        obtain ⟨v, σ', H', J', rv, q⟩ := hs
        cases q
        cases (show u = .bool true from rv)
        refine ⟨rfl, OldK.of_keep fun b o e => ?_, J'.os, J'.bare⟩
        cases z : H b with
        | none => exact J'.base.keep b o e z (fun z => by cases z) (fun z => by cases z)
        | some z1 =>
          rcases hO b with z2 | ⟨ob, xs, z2⟩
          · rw [z] at z2; cases z2
          · have z3 := (hok b _ z2).1
            have z4 := (J'.hok b _ (J'.base.frzs b ob _ z2)).1
            rw [e] at z3
            cases z3
            exact z4
      | next =>
        obtain ⟨_, _, _, q⟩ := hs
        exact q.elim
      | brk =>
        obtain ⟨_, _, _, q⟩ := hs
        exact q.elim
      | cont =>
        obtain ⟨_, _, _, q⟩ := hs
        exact q.elim
    · refine wpAny_mono hs (fun _ s2 h => False.elim ?_) fun _ _ h => ?_
      · obtain ⟨_, _, _, _, _, _, _, _, _, _, _, _, z⟩ := h
        exact z
      · obtain ⟨_, _, _, _, _, _, _, _, _, _, _, _, z⟩ := h
        exact z.elim
  have rv := vals_ints hin
  cases hk : K.lookup a with
  | some o =>
    have e := kx a o hk
    rw [hob] at e
    cases e
    refine core (fun _ => none) (fun _ => .inl rfl) (.inr ⟨_, us.toArray, _, hk, rfl, rfl, rfl, ?_, by simpa using rv⟩) (fun b u z => by cases z) (fun b z => absurd rfl z) fun z => absurd rfl z
    rw [List.size_toArray, hin.length]
    exact hl
  | none =>
    refine core (fun b => if b = a then some (.frz { cls := .type "list", data := .seq us.toArray } (.lst (ns.map V.int))) else none) (fun b => ?_) (.inl (.inr ⟨_, if_pos rfl⟩)) (fun b u z => ?_) (fun b z => ?_) fun _ => hk
    · by_cases hb : b = a
      · exact .inr ⟨_, _, if_pos hb⟩
      · exact .inl (if_neg hb)
    · by_cases hb : b = a
      · simp only [if_pos hb] at z
        cases z
        subst hb
        exact ⟨hob, by rw [List.length_map]; exact hl, us, _, rv, hob⟩
      · simp only [if_neg hb] at z
        cases z
    · by_cases hb : b = a
      · exact hb
      · exact absurd (if_neg hb) z
theorem walk_ofG {l : PySem.W.OpenLaw} {k : Nat} {q : Program} {loose : List Str} {XP : (Str → Option Value) → Heap → Prop} {YP : World → Heap → Prop} {d : DefRec} {x : Str} (hn : l.most = some 63) (hdf : d.params.defaults = []) (hr : Room (k + 1) callerA) (hi : importsNone q = true)
    (F : ∀ (w : World) (mg : Str → Option Value) (f : Addr) (h : Heap), YP w h → h.Ns mainGlobals mg → mg d.name = some (.ref f) →
      ∃ (K : PySem.W.Frag) (fd : FuncData) (cA : Nat → Addr) (y qual : Str) (params : Arguments) (body : List Stmt) (scope : Scope) (kws : List (Str × V)) (N : List Str) (g : GS noObj), K.In h ∧ FunD K y qual params body scope [] kws f fd ∧ FnScope N [x] scope ∧ (∀ (s : Shared) (u : Value), BindsTo s fd ⟨[u], []⟩ [(x, u)]) ∧
        (∀ ns : List Int, runF N.length g [.dict [(.none, .list (ns.map PyData.int))]] = .ok (.bool true)) ∧
        ∀ base : Heap, K.In base → base.Ns mainGlobals mg → ∀ (cdv : Value) (s : Shared) (H : Hp) (E : XK), StrOk (bodyC l.prog w K mg base N qual scope f cdv callerA [] s H E) → GoodS (B := noObj) (bodyC l.prog w K mg base N qual scope f cdv callerA [] s H E) ⟨K, cA, E⟩ k →
          DSs (bodyC l.prog w K mg base N qual scope f cdv callerA [] s H E) ⟨K, cA, E⟩ body g) :
    PySem.W.WalkO q loose XP YP l.row.toRowW d [] (fun f vs => PySem.call f vs) := by
  refine Att.attach_call hn hdf fun w t0 t1 mg mb f ob pm cd doc a us ns Gv Yv ho hd1 hcd hmg hob hin hlen hgs => ?_
  obtain ⟨K, fd, cA, y, qual, params, body, scope, kws, N, g, kx, FD, S, hb, hF, hB⟩ := F w mg f _ Yv Gv.T.g hmg
  obtain ⟨mm, hm, _⟩ := (Gv.T.seer hi).mods
  exact law_runs kx Gv.T.g Gv.T.b Gv.T.builtins Gv.T.nolimit ⟨mm, hm⟩ hgs hob hin (Nat.le_trans hlen (by decide)) hr FD S hb hB (hF ns)
/-! ### what is not come to -/
section
variable {B : ObjB} {X : Cx} {c : Ctx B}
def gDead : GS B := fun _ => .stuck
theorem dss_dead {sts : List Stmt} : DSs X c sts (gDead : GS B) := ⟨⟨fun _ _ _ _ _ _ ⟨_, _, _, _, q⟩ => q.elim⟩⟩
def eDead : Env B → R D := fun _ => .stuck
theorem de_dead {e : Expr} : DE X c e (eDead : Env B → R D) := ⟨⟨fun _ _ _ _ _ _ ⟨_, _, _, _, q⟩ => q.elim⟩⟩
end
end PL

set_option Elab.async false
set_option linter.all false
set_option maxRecDepth 100000
set_option maxHeartbeats 4000000
/-! own lists, read -/
namespace PL
open PySem PySem.Spec PyProof.Rows L2
section
variable {B : ObjB} {X : Cx} {c : Ctx B} {pos : Pos} {K : PySem.W.Frag} {I : Ent} {M H M' H' : Hp} {σ σ' : L2.St} {ρ ρ' : Env B}
/-- tuple(x), x an own list -/
def eTupOwn (i : Nat) : Env B → R D := fun ρ => match ρ[i]? with
  | some (.own ds) => .ok (.tuple ds)
  | _ => .stuck
theorem de_tupOwn {i : Nat} {x : Str} {p q : Pos} (K : c.K = X.K) (hm : X.mg "tuple" = none) (hN : X.N[i]? = some x) (hv : Vis X.env.scope x) (hg : Gl X "tuple" := by rfl) (hd : (x == ("__debug__" : Str)) = false := by decide) (hcd : (x == ("__classdict__" : Str)) = false := by decide)
    (he : starEach [.Name x q] X.env = (false, eval (.Name x q) X.env) :: starEach [] X.env := by rfl) (hpl : (backTo pos (starEach [] X.env)).any (·.1) = false := by rfl) :
    DE X c (.Call (.Name "tuple" p) [.Name x q] [] pos) (eTupOwn (B := B) i) := by
  refine ⟨PE.imp (pe_callTy call_tuple_of hg hm boot_tupleT (pa_cons (pe_var hN hv hd hcd) pa_nil he) (he := he) (hpl := hpl)) fun σ H Q ⟨I, M, ρ, e, q⟩ => ?_⟩
  unfold eTupOwn at q
  split at q
  · rename_i ds hi
    obtain ⟨l, vs, a, hl, ml, il, r⟩ := e.slots i _ hi
    refine ⟨_, a, l, vs, rfl, .inl ⟨.inl (.inl hl), fun p hp => ?_⟩⟩
    have g := Grow.alloc e.mok hp (o := .tup vs) rfl
    exact q (.ref p) _ _ (.of g) (e.grow g) (.newT (e.mok.free hp) r)
  · exact q.elim
/-- x[k], x an own list -/
def eIxOwn (i : Nat) (f : Env B → R D) : Env B → R D := fun ρ => match ρ[i]? with
  | some (.own ds) => (f ρ).bind fun y => noE (dIx (.list ds) y)
  | _ => .stuck
end
end PL

set_option Elab.async false
set_option linter.all false
set_option maxRecDepth 100000
set_option maxHeartbeats 4000000
/-! shown texts: what they hold, how long they are -/
namespace PL
open PySem
theorem okS_append {x y : Str} (hx : PyData.strOk x = true) (hy : PyData.strOk y = true) : PyData.strOk (x ++ y) = true := by
  unfold PyData.strOk at *
  show (Array.all (x.cps ++ y.cps) _) = true
  rw [Array.all_append, hx, hy]
  rfl
theorem okS_ofString (s : String) : PyData.strOk (Str.ofString s) = true := by
  rw [Str.ofString_eq_toList]
  unfold PyData.strOk
  simp only [List.all_toArray, List.all_map, List.all_eq_true, Function.comp_def, decide_eq_true_eq]
  intro c _
  have := c.valid
  simp only [UInt32.isValidChar, Nat.isValidChar] at this
  show c.val.toNat < _
  omega
theorem okS_join {sep : Str} (hs : PyData.strOk sep = true) : ∀ {ts : List Str}, (∀ t ∈ ts, PyData.strOk t = true) → PyData.strOk (Str.join sep ts) = true
  | [], _ => show PyData.strOk Str.empty = true by decide +kernel
  | [x], h => h x (List.mem_cons_self ..)
  | x :: y :: r, h => by
    show PyData.strOk (x ++ sep ++ Str.join sep (y :: r)) = true
    exact okS_append (okS_append (h x (List.mem_cons_self ..)) hs) (okS_join hs fun t ht => h t (List.mem_cons_of_mem _ ht))
theorem okS_from : ∀ {ts : List Str} {k : Nat} {acc : Str}, PyData.strOk acc = true → (∀ t ∈ ts, PyData.strOk t = true) → PyData.strOk (textFrom k acc ts) = true
  | [], _, _, ha, _ => ha
  | t :: ts, k, acc, ha, h => by
    rw [textFrom]
    exact okS_from (okS_append (okS_append ha (okS_ofString _)) (h t (List.mem_cons_self ..))) fun z hz => h z (List.mem_cons_of_mem _ hz)
mutual
theorem okS_shown : ∀ {d : D}, showD d = true → PyData.strOk d.shown = true
  | .none, _ => okS_ofString _
  | .bool b, _ => by cases b <;> exact okS_ofString _
  | .int i, _ => okS_ofString _
  | .str x, h => (Bool.and_eq_true_iff.mp (show (PyData.strOk x && PyData.strOk (reprText x)) = true from h)).2
  | .list xs, h => by
    rw [PyData.shown]
    exact okS_append (okS_from (okS_ofString _) (okS_shownAll (by simpa [showD] using h))) (okS_ofString _)
  | .tuple xs, h => by
    rw [PyData.shown]
    exact okS_append (okS_append (okS_ofString _) (okS_join (okS_ofString _) (okS_shownAll (by simpa [showD] using h)))) (okS_ofString _)
  | .dict [], _ => by decide +kernel
  | .dict (_ :: _), h => by cases h
theorem okS_shownAll : ∀ {ds : List D}, showDs ds = true → ∀ t ∈ PyData.shownAll ds, PyData.strOk t = true
  | [], _, t, ht => by simp [PyData.shownAll] at ht
  | x :: xs, h, t, ht => by
    have h2 := Bool.and_eq_true_iff.mp (show (showD x && showDs xs) = true from h)
    rw [PyData.shownAll] at ht
    rcases List.mem_cons.mp ht with rfl | ht
    · exact okS_shown h2.1
    · exact okS_shownAll h2.2 t ht
end
theorem okS_strOfD {d : D} (h : showD d = true) : PyData.strOk (strOfD d) = true := by
  unfold strOfD
  split
  · exact (Bool.and_eq_true_iff.mp (show (PyData.strOk _ && PyData.strOk (reprText _)) = true from h)).1
  · exact okS_shown h
theorem showDs_iff : ∀ {xs : List D}, showDs xs = true ↔ ∀ x ∈ xs, showD x = true
  | [] => by simp [showDs]
  | x :: xs => by simp [showDs, showDs_iff (xs := xs)]
/-- little data -/
def little (n : Nat) (d : D) : Prop := showD d = true ∧ d.leavesShort 40 = true ∧ d.bulk ≤ n
theorem shortAll_iff : ∀ {xs : List D}, PyData.leavesShortAll 40 xs = true ↔ ∀ x ∈ xs, x.leavesShort 40 = true
  | [] => by simp [PyData.leavesShortAll]
  | x :: xs => by simp [PyData.leavesShortAll, shortAll_iff (xs := xs)]
theorem bulkAll_le {n : Nat} : ∀ {xs : List D}, (∀ x ∈ xs, x.bulk ≤ n) → PyData.bulkAll xs ≤ (n + 1) * xs.length
  | [], _ => by simp [PyData.bulkAll]
  | x :: xs, h => by
    have h1 := h x (List.mem_cons_self ..)
    have h2 := bulkAll_le (n := n) (xs := xs) fun y hy => h y (List.mem_cons_of_mem _ hy)
    rw [PyData.bulkAll, List.length_cons, Nat.mul_add, Nat.mul_one]
    omega
theorem little_list {n m : Nat} {xs : List D} (h : ∀ x ∈ xs, little n x) (hl : (n + 1) * xs.length ≤ m) : little m (.list xs) := by
  refine ⟨?_, ?_, ?_⟩
  · rw [showD]; exact showDs_iff.mpr fun x hx => (h x hx).1
  · rw [PyData.leavesShort]; exact shortAll_iff.mpr fun x hx => (h x hx).2.1
  · rw [PyData.bulk]; exact Nat.le_trans (bulkAll_le fun x hx => (h x hx).2.2) hl
theorem little_tuple {n m : Nat} {xs : List D} (h : ∀ x ∈ xs, little n x) (hl : (n + 1) * xs.length ≤ m) : little m (.tuple xs) := by
  refine ⟨?_, ?_, ?_⟩
  · rw [showD]; exact showDs_iff.mpr fun x hx => (h x hx).1
  · rw [PyData.leavesShort]; exact shortAll_iff.mpr fun x hx => (h x hx).2.1
  · rw [PyData.bulk]; exact Nat.le_trans (bulkAll_le fun x hx => (h x hx).2.2) hl
theorem little_none {n : Nat} : little n .none := ⟨rfl, rfl, Nat.zero_le _⟩
theorem little_bool {n : Nat} (b : Bool) : little n (.bool b) := ⟨rfl, rfl, Nat.zero_le _⟩
theorem log2_lt {m k : Nat} (h : m < 2 ^ k) (hk : 0 < k) : m.log2 < k := by
  by_cases h0 : m = 0
  · subst h0; simpa using hk
  · exact (Nat.log2_lt h0).mpr h
theorem little_int {n : Nat} {i : Int} (h : i.natAbs < 10 ^ 12) : little n (.int i) := by
  refine ⟨decide_eq_true (log2_lt (Nat.lt_trans h (Nat.lt_of_lt_of_le (show 10 ^ 12 < 2 ^ 64 by decide) (Nat.pow_le_pow_right (by decide) (by decide)))) (by decide)), ?_, Nat.zero_le _⟩
  rw [PyData.leavesShort]
  exact decide_eq_true (Nat.le_trans (PyData.shown_int_le h) (by decide))
theorem dStr_little' {d : D} {n : Nat} (h : little n d) (hn : n ≤ 20000) (hd : d.depth ≤ 60) : dStr [d] = .ok (.str (strOfD d)) := by
  have h1 := PyData.shown_le_bulk 40 (by decide) d h.2.1
  have h2 := h.2.2
  simp only [dStr]
  rw [h.1, decide_eq_true hd, decide_eq_true (show d.shown.length ≤ 4000000 by omega)]
  rfl
theorem dStr_little {d : D} (h : little 1000 d) (hd : d.depth ≤ 60) : dStr [d] = .ok (.str (strOfD d)) := dStr_little' h (by decide) hd
theorem noObjs_true (ρ : Env noObj) : noObjs ρ = true := List.all_eq_true.mpr fun s _ => by
  cases s with
  | obj z => cases z
  | _ => rfl
theorem isi_str (t : D) (h : tyD t ≠ none) : dIsi "str" t = .ok (.bool (match t with | .str _ => true | _ => false)) := by
  cases t <;> first | rfl | skip
  rename_i kv
  cases kv
  · rfl
  · exact absurd rfl h
theorem dEq_str {x y : Str} (hx : PyData.strOk x = true) (hy : PyData.strOk y = true) : dEq (.str x) (.str y) = .ok (.bool (decide (x = y))) := by
  rw [dEq_sh (n := 0) (m := 0) (sh_str (by rw [PyData.canLay0]; exact hx)) (sh_str (by rw [PyData.canLay0]; exact hy))]
  simp only [PyData.eqv]
  rfl
theorem dNe_str {x y : Str} (hx : PyData.strOk x = true) (hy : PyData.strOk y = true) : dNe (.str x) (.str y) = .ok (.bool (!decide (x = y))) := by
  rw [dNe_sh (n := 0) (m := 0) (sh_str (by rw [PyData.canLay0]; exact hx)) (sh_str (by rw [PyData.canLay0]; exact hy))]
  simp only [PyData.eqv]
  rfl
end PL

set_option Elab.async false
set_option linter.all false
set_option maxRecDepth 100000
set_option maxHeartbeats 4000000
/-! defs that call themselves -/
namespace PL
open PySem PySem.Spec PyProof.Rows L2
theorem df_stuck {P : Program} {w : World} {K : PySem.W.Frag} {mg : Str → Option Value} {base : Heap} {cA : Nat → Addr} {x qual : Str} {params : Arguments} {body : List Stmt} {scope : Scope} {kws : List (Str × V)} {f : Addr} {fd : FuncData} {ps : List Str} {k : Nat} (FD : FunD K x qual params body scope [] kws f fd) (hb : Binds K fd ps []) (gx : mg x = some (.ref f)) :
    Df P w K mg base cA x k ps.length (fun _ => .stuck) :=
  ⟨f, fd, ps, rfl, ⟨fun vs H Q E h => h.1, fun A outer s H args us vs Q E hr e0 hbn r h => h.2.elim fun _ h => h.elim fun _ h => h.2.2.elim⟩, gx, FD.kp, hb⟩
/-- a name of the top that stands for a tuple of ints -/
def tupFact (x : Str) (ns : List Int) (K : PySem.W.Frag) : Bool := match K.lookup (He.ga K x) with
  | some o => decide (o.cls = .type "tuple") && (match o.data with
    | .seq its _ => decide (its.size ≤ sizeLine) && He.relAll (ns.map V.int) its.toList
    | _ => false)
  | none => false
theorem tupFact_ok {x : Str} {ns : List Int} {K : PySem.W.Frag} (h : tupFact x ns K = true) (M : Hp) : SqT K M (He.ga K x) (ns.map V.int) := by
  unfold tupFact at h
  split at h
  · rename_i o ho
    obtain ⟨h1, h2⟩ := He.ba h
    split at h2
    · rename_i its n hd
      obtain ⟨h3, h4⟩ := He.ba h2
      exact .inr ⟨o, its, n, ho, of_decide_eq_true h1, hd, of_decide_eq_true h3, He.relAll_ok h4⟩
    · cases h2
  · cases h
theorem de_gtup {B : ObjB} {X : Cx} {c : Ctx B} {pos : Pos} {x : Str} {ns : List Int} (h : tupFact x ns c.K = true) (hm : X.mg x = some (.ref (He.ga c.K x))) (hg : Gl X x := by rfl) (hd : (x == ("__debug__" : Str)) = false := by decide) : DE X c (.Name x pos) (eC (.tuple (ns.map PyData.int))) :=
  de_glob (v := .ref (He.ga c.K x)) hg hm rfl (fun M => .tup (tupFact_ok h M) (Reps.of_ints ns)) hd
/-! ### len(set(x)), x a list of ints -/
section
variable {B : ObjB} {X : Cx} {c : Ctx B} {pos : Pos}
theorem fm_nodup (val : Nat → Int) : ∀ i, (PyProof.Rows.firstMet val i).Nodup
  | 0 => by rw [PyProof.Rows.firstMet_zero]; exact List.nodup_nil
  | i + 1 => by
    rw [PyProof.Rows.firstMet_succ]
    unfold PyProof.Rows.step_dedup
    split
    · exact fm_nodup val i
    · rename_i h
      refine List.nodup_append.mpr ⟨fm_nodup val i, by simp, fun a ha b hb e => h ?_⟩
      rw [List.mem_singleton] at hb
      subst hb
      exact List.any_eq_true.mpr ⟨a, ha, by simp [e]⟩
theorem fm_mem (ns : List Int) (k : Int) : k ∈ PyProof.Rows.firstMet (fun i => ns.getD i 0) ns.length ↔ k ∈ ns := by
  have h := PyProof.Rows.firstMet_any (fun i => ns.getD i 0) ns.length k
  have e : (List.range ns.length).map (fun i => ns.getD i 0) = ns := by
    apply List.ext_getElem
    · simp
    · intro i h1 h2
      simp [List.getD, h2]
  rw [e] at h
  constructor
  · intro hk
    have : ns.any (· == k) = true := by rw [← h]; exact List.any_eq_true.mpr ⟨k, hk, by simp⟩
    obtain ⟨x, hx, e⟩ := List.any_eq_true.mp this
    rw [← eq_of_beq e]; exact hx
  · intro hk
    have : (PyProof.Rows.firstMet (fun i => ns.getD i 0) ns.length).any (· == k) = true := by rw [h]; exact List.any_eq_true.mpr ⟨k, hk, by simp⟩
    obtain ⟨x, hx, e⟩ := List.any_eq_true.mp this
    rw [← eq_of_beq e]; exact hx
theorem fm_len (ns : List Int) : (PyProof.Rows.firstMet (fun i => ns.getD i 0) ns.length).length = (distI ns).length :=
  nodup_len (fm_nodup _ _) (up_nodup (distI_up ns)) fun z => by rw [fm_mem, distI_mem]
theorem insU_le (x : Int) : ∀ l : List Int, (insU x l).length ≤ l.length + 1
  | [] => by simp [insU]
  | y :: r => by
    have := insU_le x r
    unfold insU
    split
    · simp
    · split <;> simp <;> omega
theorem distI_le' : ∀ l : List Int, (distI l).length ≤ l.length
  | [] => Nat.le_refl _
  | x :: r => by
    have h1 := distI_le' r
    have h2 := insU_le x (distI r)
    rw [show distI (x :: r) = insU x (distI r) from rfl, List.length_cons]
    omega
def setIntsL (x : D) : R (List Int) := match x with
  | .list ds => match intsOf ds with
    | some ns => if ns.length ≤ 60 then .ok ns else .stuck
    | none => .stuck
  | _ => .stuck
def eLenSetL (f : Env B → R D) : Env B → R D := fun ρ => (f ρ).bind fun x => (setIntsL x).bind fun ns => .ok (.int (distI ns).length)
theorem setIntsL_rd {I : Ent} {x : D} {P : List Int → Prop} (h : RD c I (setIntsL x) P) : ∃ ns, x = .list (ns.map .int) ∧ ns.length ≤ 60 ∧ P ns := by
  unfold setIntsL at h
  split at h
  · split at h
    · rename_i ns hn
      split at h
      · exact ⟨ns, by rw [intsOf_eq hn], by assumption, h⟩
      · exact h.elim
    · exact h.elim
  · exact h.elim
/-- set(x): the set stands -/
def rSetL (K : PySem.W.Frag) : V → Hp → VK → Prop := fun x H Q => ∃ (l : Addr) (ns : List Int), x = .ref l ∧ SqL K H l (ns.map V.int) ∧ ns.length ≤ 60 ∧ ∀ p S, H p = none → Q (.ref p) (upd H p (.set S (distI ns).length))
theorem pe_setL {a : Expr} {ta : TE} {p q : Pos} (hg2 : Gl X "set") (hm2 : X.mg "set" = none) (hc : X.calm = true) (ha : PE X a ta) (na : starEach [a] X.env = (false, eval a X.env) :: starEach [] X.env := by rfl) : PE X (.Call (.Name "set" p) [a] [] q) (tUn (rSetL X.K) ta) := by
  refine ⟨fun pins s σ H Q I h => ?_⟩
  refine Call_ (ld_blt I hg2 hm2 PyProof.Rows.boot_set ?_)
  refine PyProof.Rows.callWith_type1 (PyProof.Rows.args_cons (thn (ha.run pins s σ H _ I h) fun v s1 ⟨x, H1, I1, r1, q1⟩ => PyProof.Rows.args_nil ?_) na) na rfl
  obtain ⟨l, ns, rfl, hq, hl, q1⟩ := q1
  cases r1
  obtain ⟨its, rv, pt, hz⟩ := I1.list hq
  have hi : IntsAre its.toArray.toList ns := by simpa using Vals.ints rv
  have hlen : its.toArray.size = ns.length := by have := hi.length; simpa using this
  refine PySem.call_set_list (I1.ok.hd hc) pt.isList hi (by rw [hlen]; unfold scanBound; omega) fun h' tk R1 k => ?_
  have hn : H1 s1.heap.objs.size = none := I1.hok.fresh (Nat.le_refl _)
  rw [hlen, fm_len] at R1
  exact ⟨.ref s1.heap.objs.size, _, I1.laid (t' := tk) (o := .set (fun z => (PyProof.Rows.firstMet (fun i => ns.getD i 0) ns.length).any (· == z)) (distI ns).length) (fun b u e => k b u (Heap.lt_size e) e) (Nat.le_refl _) R1, rfl, q1 _ _ hn⟩
theorem de_lenSetL {a : Expr} {f : Env B → R D} {p p2 q : Pos} {k : Nat} (G : Good X c k) (hm : X.mg "len" = none) (hm2 : X.mg "set" = none) (ha : DE X c a f) (hg : Gl X "len" := by rfl) (hg2 : Gl X "set" := by rfl)
    (na : starEach [a] X.env = (false, eval a X.env) :: starEach [] X.env := by rfl) (he : starEach [.Call (.Name "set" p2) [a] [] q] X.env = (false, eval (.Call (.Name "set" p2) [a] [] q) X.env) :: starEach [] X.env := by rfl) :
    DE X c (.Call (.Name "len" p) [.Call (.Name "set" p2) [a] [] q] [] pos) (eLenSetL f) := by
  have hcall : CallR X (.builtin "len") (fun xs H Q => ∃ a S n, xs = [.ref a] ∧ H a = some (.set S n) ∧ n < 100 ∧ Q (.int n) H) := by
    intro pins s σ H xs us Q I r h
    obtain ⟨a, S, n, rfl, ha, hn, q⟩ := h
    rw [Vals.ref1 r]
    obtain ⟨o, es, ep, t, ho, hex, hd, _, _, _, hf, hn'⟩ := I.hok a _ ha
    exact call_len_set ho hex hd hf (by omega) ⟨.int n, H, I.tok _, ⟨_, by rw [hn']⟩, q⟩
  refine ⟨PE.imp (pe_callB hcall hg hm PySem.boot_len (pa_cons (pe_setL hg2 hm2 G.calm ha.pe na) pa_nil he) (he := he) (hpl := rfl)) fun σ H Q ⟨I, M, ρ, e, q⟩ => ?_⟩
  refine ⟨I, M, ρ, e, q.bind.mono fun x hx v H1 M1 k1 e1 r1 => ?_⟩
  obtain ⟨ns, rfl, hl, hx⟩ := setIntsL_rd hx.bind
  cases r1 with
  | lst h r =>
    cases r.ints
    have hd := distI_le' ns
    refine ⟨_, ns, rfl, SqL.of (e1.mok.same _ _ h), hl, fun p0 S hp => ?_⟩
    have sm : Same H1 (upd H1 p0 (.set S (distI ns).length)) := upd_same_of hp
    have g : Grow M1 H1 M1 (upd H1 p0 (.set S (distI ns).length)) := ⟨sm, Same.refl _, fun b o z => ⟨sm _ _ (e1.mok b o z).1, (e1.mok b o z).2⟩, fun b o z n => by rw [z] at n; cases n⟩
    exact ⟨p0, S, _, rfl, upd_same, by omega, hx _ _ M1 (k1.trans (.of g)) (e1.grow g) (.int _)⟩
end
end PL

set_option Elab.async false
set_option linter.all false
set_option maxRecDepth 100000
set_option maxHeartbeats 4000000
/-! t[::-1], t a tuple -/
namespace PL
open PySem PySem.Spec PyProof.Rows L2
theorem adj_rev (n : Nat) : Builtin.Slice.sliceAdjust none none (-1) (n : Int) = ((n : Int) - 1, -1) := by
  simp [Builtin.Slice.sliceAdjust]
theorem places_rev (n : Nat) : Builtin.Slice.slicePlaces ((n : Int) - 1) (-1) (-1) = n := by
  unfold Builtin.Slice.slicePlaces
  have h1 : ¬ ((-1 : Int) > 0) := by decide
  simp only [h1, if_false]
  by_cases h : (n : Int) - 1 > -1
  · rw [if_pos h, show (- -1 : Int) = 1 by decide, Int.ediv_one]
    omega
  · rw [if_neg h]
    omega
section
variable {prog : Program} {w : World} {A : Around} {E : Value → Shared → Prop} {s : Shared}
theorem applied_rev {sl : Addr} {vs : Value} {n : Nat} {Q : Int × Int × Nat → Shared → Prop} (hs : s.heap.IsSliceOf sl .none .none vs) (ps : IsPart vs (some (-1))) (h : Q ((n : Int) - 1, -1, n) s) : wpAny (model prog w) A (Builtin.Slice.sliceApplied (.ref sl) (pure (n : Int))) Q E s := by
  obtain ⟨os, hos, hcs, hds⟩ := id hs
  unfold Builtin.Slice.sliceApplied Builtin.Slice.sliceFields
  refine wpAny_bind (wpAny_bind (wpAny_field hos hds (x := .none) rfl (wpAny_bind (wpAny_field hos hds (x := .none) rfl (wpAny_bind (wpAny_field hos hds (x := vs) rfl (wpAny_pure ?_)))))))
  refine wpAny_bind (HT.slicePart_ ps ?_)
  show wpAny _ _ (if ((-1 : Int) == 0) = true then _ else _) _ _ s
  rw [if_neg (by decide)]
  refine wpAny_bind (HT.slicePart_ .none (wpAny_bind (HT.slicePart_ .none (wpAny_bind (wpAny_pure ?_)))))
  show wpAny _ _ (match Builtin.Slice.sliceAdjust none none (-1) (n : Int) with | (lo, hi) => pure (lo, (-1 : Int), Builtin.Slice.slicePlaces lo hi (-1))) _ _ s
  rw [adj_rev n]
  show wpAny _ _ (pure ((n : Int) - 1, (-1 : Int), Builtin.Slice.slicePlaces ((n : Int) - 1) (-1) (-1))) _ _ s
  rw [places_rev]
  exact wpAny_pure h
theorem fm_congr {α β : Type} {f g : α → Option β} : ∀ {l : List α}, (∀ m ∈ l, f m = g m) → l.filterMap f = l.filterMap g
  | [], _ => rfl
  | a :: l, h => by rw [List.filterMap_cons, List.filterMap_cons, h a (List.mem_cons_self ..), fm_congr fun m hm => h m (List.mem_cons_of_mem _ hm)]
theorem pick_rev (xs : Array Value) : ((List.range xs.size).filterMap fun (m : Nat) => xs[((xs.size : Int) - 1 + (m : Int) * (-1)).toNat]?).toArray = xs.toList.reverse.toArray := by
  have e : (List.range xs.size).filterMap (fun (m : Nat) => xs[((xs.size : Int) - 1 + (m : Int) * (-1)).toNat]?) = ((List.range xs.size).map fun k => xs.size - 1 - k).filterMap (xs[·]?) := by
    rw [List.filterMap_map]
    refine fm_congr fun m hm => ?_
    have := List.mem_range.mp hm
    show xs[((xs.size : Int) - 1 + (m : Int) * (-1)).toNat]? = xs[xs.size - 1 - m]?
    have e2 : ((xs.size : Int) - 1 + (m : Int) * (-1)).toNat = xs.size - 1 - m := by omega
    rw [e2]
  rw [e, PySem.W.krv_range, List.filterMap_reverse, PySem.W.krv_all]
theorem getItem_rev {t sl : Addr} {items : Array Value} {vs : Value} {Q : Value → Shared → Prop} (ht : IsTup s.heap t items) (hs : s.heap.IsSliceOf sl .none .none vs) (ps : IsPart vs (some (-1)))
    (h : Q (.ref s.heap.objs.size) { s with heap := s.heap.push { cls := .type "tuple", data := .seq items.toList.reverse.toArray } }) (hsz : items.size ≤ sizeLine) : wpAny (model prog w) A (getItem (.ref t) (.ref sl)) Q E s := by
  have hok : sizeOk (.seq items.toList.reverse.toArray) := by
    show items.toList.reverse.toArray.size ≤ sizeLine
    rw [List.size_toArray, List.length_reverse, Array.length_toList]
    exact hsz
  obtain ⟨os, hos, hcs, hds⟩ := id hs
  have hTs : s.TypeIs (.ref sl) "slice" := ⟨os, hos, hcs⟩
  unfold getItem
  try with_reducible refine wpAny_holding ?_
  first | refine wpAny_bind (wpAny_pure ?_) | skip
  refine wpAny_bind (wpAny_sequenceKey ht.typeIs (by decide) (wpAny_bind (wpAny_callSpecial?_slot (name := Str.ofString "__getitem__") ht.typeIs PyProof.Rows.slot_tuple_getitem (wpAny_call_entry PyProof.Rows.slot_tuple_getitem ht.typeIs entry_tuple_getitem ?_ (args_tuple_getitem _ _)))))
  show wpAny _ _ (Builtin.Tuple.tupleItemsOf (.ref t) >>= _) _ _ s
  refine wpAny_bind (tupleItemsOf_ ht (wpAny_bind (wpAny_typeOf hTs ?_)))
  rw [if_pos (by decide)]
  refine wpAny_bind (applied_rev hs ps ?_)
  have hno : ¬ ((((items.size : Int) - 1) == 0 && (-1 : Int) == 1 && items.size == items.size) = true) := by
    intro q
    rw [Bool.and_eq_true, Bool.and_eq_true] at q
    have := eq_of_beq q.1.2
    omega
  show wpAny _ _ (if (((items.size : Int) - 1) == 0 && (-1 : Int) == 1 && items.size == items.size) = true then _ else _) _ _ s
  rw [if_neg hno, pick_rev]
  first
    | exact wpAny_bind (m := Builtin.Tuple.tupleExact _) (wpAny_newObj_type (wpAny_pure ⟨_, rfl, wpAny_pure h⟩) hok)
    | exact wpAny_bind (m := Builtin.Tuple.tupleExact _) (wpAny_newObj_type (wpAny_bind (wpAny_pure (wpAny_pure ⟨_, rfl, wpAny_pure h⟩))) hok)
    | exact wpAny_bind (wpAny_bind (m := Builtin.Tuple.tupleExact _) (wpAny_newObj_type (wpAny_pure (wpAny_pure ⟨_, rfl, wpAny_pure h⟩)) hok))
    | exact wpAny_bind (wpAny_bind (m := Builtin.Tuple.tupleExact _) (wpAny_newObj_type (wpAny_pure ⟨_, rfl, wpAny_pure h⟩) hok))
end
section
variable {B : ObjB} {X : Cx} {c : Ctx B} {pos : Pos} {e : Expr} {f : Env B → R D}
def tRevT (K : PySem.W.Frag) (te : TE) : TE := fun σ H Q => te σ H fun x H1 => ∃ a xs, x = .ref a ∧ SqT K H1 a xs ∧ ∀ p, H1 p = none → Q (.ref p) (upd H1 p (.tup xs.reverse))
theorem pe_revT {te : TE} {k : Nat} {p1 p2 p3 : Pos} (he : PE X e te) : PE X (.Subscript e (.Slice none none (some (.UnaryOp .USub (.Constant (.int 1) k p1) p2)) p3) pos) (tRevT X.K te) := by
  refine ⟨fun pins s σ H Q I h => ?_⟩
  refine Subscript_ (thn (he.run pins s σ H _ I h) fun v s1 ⟨x, H1, I1, r1, a, xs, ex, hx, q⟩ => ?_)
  subst ex
  cases r1
  have hst : PO X (some (.UnaryOp .USub (.Constant (.int 1) k p1) p2)) (tPart (tUn (rU fun i => .int (-i)) (tC (.int 1)))) := po_some (pe_un un_neg pe_int)
  refine wpAny_Slice (thn (po_none.run pins s1 σ H1 (fun o H2 => o = none ∧ H2 = H1) I1 ⟨rfl, rfl⟩) fun vl s2 ⟨l, H2, I2, pl, z1, z2⟩ => ?_)
  subst z1 z2
  refine thn (po_none.run pins s2 σ H2 (fun o H3 => o = none ∧ H3 = H2) I2 ⟨rfl, rfl⟩) fun vu s3 ⟨u, H3, I3, pu, z1, z2⟩ => ?_
  subst z1 z2
  refine thn (hst.run pins s3 σ H3 (fun o H4 => o = some (-1) ∧ H4 = H3) I3 ⟨1, rfl, -1, rfl, rfl, rfl⟩) fun vs s4 ⟨o, H4, I4, ps, z1, z2⟩ => ?_
  subst z1 z2
  cases pl
  cases pu
  have I5 : Inv X pins σ H4 { s4 with heap := s4.heap.push { cls := .type "slice", data := .fields #[.none, .none, vs] } } := I4.kept (t' := s4.toks) fun b ob q => Heap.get?_push_of_some _ q
  obtain ⟨its, r, ht, hz⟩ := I5.tuple hx
  have hlen := r.length
  show wpAny (model X.prog X.w) X.A (subscriptTail e (.Slice none none (some (.UnaryOp .USub (.Constant (.int 1) k p1) p2)) p3) (.ref a) (.ref s4.heap.objs.size)) (EP X pins σ Q) X.xe { s4 with heap := s4.heap.push { cls := .type "slice", data := .fields #[.none, .none, vs] } }
  refine tail_any (ops := [.ref a, .ref s4.heap.objs.size]) ht.typeIs (PyProof.Rows.slot_tuple_getitem.lookup) (getItem_rev ht (Heap.IsSliceOf.new _ .none .none vs) ps ?_ (by rw [List.size_toArray]; omega)) (by with_unfolding_all rfl)
  refine ⟨.ref _, _, I5.laid (t' := s4.toks) (o := .tup xs.reverse) (fun b ob q => Heap.get?_push_of_some _ q) (Nat.le_refl _) ?_, rfl, q _ (I5.hok.fresh (Nat.le_refl _))⟩
  exact ⟨by rw [List.length_reverse]; exact hz, _, r.reverse, _, Heap.get?_push_size _ rfl, rfl, 0, rfl⟩
def dRevT : D → R D
  | .tuple xs => .ok (.tuple xs.reverse)
  | _ => .stuck
theorem de_revT {j : Nat} {p1 p2 p3 : Pos} (K : c.K = X.K) (he : DE X c e f) : DE X c (.Subscript e (.Slice none none (some (.UnaryOp .USub (.Constant (.int 1) j p1) p2)) p3) pos) (e1 dRevT f) := by
  refine ⟨PE.imp (pe_revT he.pe) fun σ H Q ⟨I, M, ρ, e, q⟩ => ?_⟩
  refine ⟨I, M, ρ, e, q.bind.mono fun x hx v H1 M1 k1 e1 r1 => ?_⟩
  obtain ⟨d, hd, hp⟩ := hx.noE
  unfold dRevT at hd
  split at hd
  · cases hd
    cases r1 with
    | tup h r => exact ⟨_, _, rfl, K ▸ sqT_same e1.mok.same h, fun p hq => post_grow hp k1 e1 _ _ _ (.alloc e1.mok hq rfl) (.newT (e1.mok.free hq) r.reverse)⟩
  · cases hd
end
end PL

set_option Elab.async false
set_option linter.all false
set_option maxRecDepth 100000
set_option maxHeartbeats 4000000

namespace W
open PySem PySem.Spec PyProof.Rows L2 PL
/-! ### the text: its defs by place, the facts of its top -/
def top (i : Nat) : Stmt := PySem.Challenge.pw_panplan_k04_plans_looked_at.main.body.getD i (.Pass ⟨0, 0, 0, 0⟩)
abbrev dF (x : Str) (i : Nat) : He.DefD := ⟨(x, none), x, x, defArgs (top i), defBody (top i), defScope (top i), [], []⟩
def fn : List He.DefD := [dF "is_among" 8, dF "need_many" 9, dF "is_case" 10, dF "need_cases" 11, dF "is_pan" 13, dF "is_weighing" 14, dF "came" 15, dF "cases_by" 18, dF "are_parts" 19, dF "is_plan_for" 20, dF "is_alike" 21, dF "is_plan" 22, dF "length_of" 23, dF "walked" 24, dF "_law_cell_at" 26, dF "_law_mixed" 27, dF "_law_whole" 28, dF "_law_came" 29, dF "_law_pans" 30, dF "_law_pool" 31, dF "_law_puzzle" 32, dF "_law_alike" 33, dF "_law_is_pan" 34, dF "_law_is_weighing" 35, dF "_law_is_case_told" 36, dF "_law_is_plan" 37, dF "_law_length" 38, dF "_law_apart" 39, dF "_law_planned" 40, dF "_law_thing" 41, dF "_law_told_in" 42, dF "_law_here_changed" 43, dF "_law_changed" 44, dF "_law_walk" 45, dF "_law_goes" 46, dF "law" 47]
def fa : List He.Fa := [.free "all", .free "bool", .free "enumerate", .free "int", .free "isinstance", .free "len", .free "list", .free "max", .free "min", .free "range", .free "set", .free "sorted", .free "str", .free "sum", .free "tuple", .free "zip", .glo "is_among", .glo "need_many", .glo "is_case", .glo "need_cases", .glo "is_pan", .glo "is_weighing", .glo "came", .glo "cases_by", .glo "are_parts", .glo "is_plan_for", .glo "is_alike", .glo "is_plan", .glo "length_of", .glo "walked", .glo "_law_cell_at", .glo "_law_mixed", .glo "_law_whole", .glo "_law_came", .glo "_law_pans", .glo "_law_pool", .glo "_law_puzzle", .glo "_law_alike", .glo "_law_is_pan", .glo "_law_is_weighing", .glo "_law_is_case_told", .glo "_law_is_plan", .glo "_law_length", .glo "_law_apart", .glo "_law_planned", .glo "_law_thing", .glo "_law_told_in", .glo "_law_here_changed", .glo "_law_changed", .glo "_law_walk", .glo "_law_goes", .glo "law", .int "LEAST_THINGS" 2, .int "MOST_THINGS" 5, .int "MOST_CASES" 12, .exc "PanError", .glo "PanError", .exc "BadCount", .glo "BadCount", .exc "BadCases", .glo "BadCases", .glo "OUTCOMES"]
def ex : PySem.W.Frag → Bool := fun K => tupFact "OUTCOMES" [-1, 0, 1] K
abbrev TF (K : PySem.W.Frag) (mg : Str → Option Value) : Prop := FactsX K mg fa fn ex
theorem tup_OUTCOMES {K : PySem.W.Frag} {mg : Str → Option Value} (T : TF K mg) : tupFact "OUTCOMES" [-1, 0, 1] K = true := T.ex
/-- the classes of errors by their numbers: 0 PanError, 1 BadCount, 2 BadCases -/
def cA (K : PySem.W.Frag) : Nat → Addr
  | 0 => He.ga K "PanError"
  | 1 => He.ga K "BadCount"
  | 2 => He.ga K "BadCases"
  | _ => 0
variable {P : Program} {w : World} {K : PySem.W.Frag} {mg : Str → Option Value} {base : Heap}
/-! ### is_among -/
def g_is_among : GS noObj := (gRet (eAnd (e1 (dIsi "int") (eVar 0)) (eAnd (eNot (e1 (dIsi "bool") (eVar 0))) (eChain dLe dLe (eVar 1) (eVar 0) (eVar 2)))))
def F_is_among : List D → R D := runF 3 g_is_among
theorem sc_is_among : FnScope ["thing", "least", "most"] ["thing", "least", "most"] (defScope (top 8)) := ⟨rfl, rfl, rfl, by decide +kernel, rfl, by decide +kernel, by decide +kernel⟩
theorem df_is_among (T : TF K mg) : Df P w K mg base (cA K) "is_among" 1 3 F_is_among := by
  obtain ⟨fd, FD⟩ := T.says.def_ 0 (d := dF "is_among" 8) rfl
  refine df_mk (B := noObj) (k := 0) (g := g_is_among) FD sc_is_among (FD.bindsN fun _ _ _ _ _ _ us hl => match us, hl with | [_, _, _], _ => rfl) (T.glo 16) fun cdv A outer s H E G => ?_
  exact (dss_one (ds_ret (de_and (de_isi G.toGood.K (T.free 4) (T.free 3) boot_intT (de_var (i := 0) rfl (.inl rfl))) (de_and (de_not (de_isi G.toGood.K (T.free 4) (T.free 1) boot_boolT (de_var (i := 0) rfl (.inl rfl)))) (de_one (de_chain cLe cLe G.toGood.K (de_var (i := 1) rfl (.inl rfl)) (de_var (i := 0) rfl (.inl rfl)) (de_var (i := 2) rfl (.inl rfl))))))))
/-! ### need_many -/
def g_need_many : GS noObj := (gIf (tNotD (tV (eCall 3 F_is_among (aCons (eVar 0) (aCons (eC (.int 2)) (aCons (eC (.int 5)) aNil)))))) (gExc 1) gNil)
def F_need_many : List D → R D := runF 1 g_need_many
theorem sc_need_many : FnScope ["many"] ["many"] (defScope (top 9)) := ⟨rfl, rfl, rfl, by decide +kernel, rfl, by decide +kernel, by decide +kernel⟩
theorem df_need_many (T : TF K mg) : Df P w K mg base (cA K) "need_many" 2 1 F_need_many := by
  obtain ⟨fd, FD⟩ := T.says.def_ 1 (d := dF "need_many" 9) rfl
  refine df_mk (B := noObj) (k := 1) (g := g_need_many) FD sc_need_many (FD.bindsN fun _ _ _ _ _ _ us hl => match us, hl with | [_], _ => rfl) (T.glo 17) fun cdv A outer s H E G => ?_
  exact (dss_one (ds_if (dt_not (dt_val (de_call G.toGood (df_is_among T) (by decide) (da_cons (de_var (i := 0) rfl (.inl rfl)) (da_cons (de_gint (T.int 52)) (da_cons (de_gint (T.int 53)) da_nil)))))) (dss_one (ds_raise (n := 1) G (T.exc rfl rfl 57 58))) dss_nil))
/-! ### is_case -/
def c_is_case_1 : Env noObj → R (List D) := (lLc (iSeq (eVar 1)) (gN 2) tYesD (eCall 3 F_is_among (aCons (eVar 2) (aCons (e1 dNeg (eC (.int 1))) (aCons (eC (.int 1)) aNil)))) [2])
def g_is_case : GS noObj := (gSeq (gIf (tOrD (tNotD (tV (e1 (dIsi "tuple") (eVar 1)))) (tV (e2 dNe (eA dLen (aCons (eVar 1) aNil)) (eVar 0)))) (gRet (eC (.bool false))) gNil) (gRet (eA dAll (aCons (eL c_is_case_1) aNil))))
def F_is_case : List D → R D := runF 3 g_is_case
theorem sc_is_case : FnScope ["many", "thing", "one"] ["many", "thing"] (defScope (top 10)) := ⟨rfl, rfl, rfl, by decide +kernel, rfl, by decide +kernel, by decide +kernel⟩
theorem df_is_case (T : TF K mg) : Df P w K mg base (cA K) "is_case" 2 2 F_is_case := by
  obtain ⟨fd, FD⟩ := T.says.def_ 2 (d := dF "is_case" 10) rfl
  refine df_mk (B := noObj) (k := 1) (g := g_is_case) FD sc_is_case (FD.bindsN fun _ _ _ _ _ _ us hl => match us, hl with | [_, _], _ => rfl) (T.glo 18) fun cdv A outer s H E G => ?_
  exact (dss_cons (ds_if (dt_w (dw_or (dt_not (dt_val (de_isi G.toGood.K (T.free 4) (T.free 14) boot_tupleT (de_var (i := 1) rfl (.inl rfl))))) (dw_or1 (dt_cmp (cNe G.toGood.room) G.toGood.K (de_len G.toGood.K (T.free 5) (da_cons (de_var (i := 1) rfl (.inl rfl)) da_nil)) (de_var (i := 0) rfl (.inl rfl)) (nomark _))))) (dss_one (ds_ret de_bl)) dss_nil) (dss_one (ds_ret (de_all G.toGood.K G.toGood.calm (T.free 0) (da_cons (de_l (dl_lc (own := [("one", 2)]) G.toGood (di_seq G.toGood.K (de_var (i := 1) rfl (.inl rfl))) (blkOk_by (by kernel_rfl)) (fun _ _ _ _ _ => (dg_name (i := 2) G.toGood.nd rfl (.inl rfl))) (by decide) (fun _ _ _ _ _ G1 => dts_nil) (fun _ _ _ _ _ G1 => (de_call G1 (df_is_among T) (by decide) (da_cons (de_var (i := 2) rfl (.inl rfl)) (da_cons (de_neg de_int) (da_cons de_int da_nil))))))) da_nil)))))
/-! ### need_cases -/
def g_need_cases_L1 : GS noObj := (gIf (tOrD (tNotD (tV (eCall 2 F_is_case (aCons (eVar 0) (aCons (eVar 3) aNil))))) (tV (e2 dIn (eVar 3) (eSl (eVar 1) oNone (oSome (eVar 2)))))) (gExc 2) gNil)
def g_need_cases : GS noObj := (gSeq (gDrop (eCall 1 F_need_many (aCons (eVar 0) aNil))) (gSeq (gIf (tOrD (tNotD (tV (e1 (dIsi "list") (eVar 1)))) (tNotD (tV (eChain dLe dLe (eC (.int 1)) (eA dLen (aCons (eVar 1) aNil)) (eC (.int 12)))))) (gExc 2) gNil) (gFor (iEnumD (aCons (eVar 1) aNil)) (gT 2 (gsC (gN 2) (gsC (gN 3) gsN))) g_need_cases_L1)))
def F_need_cases : List D → R D := runF 4 g_need_cases
theorem sc_need_cases : FnScope ["many", "cases", "place", "case"] ["many", "cases"] (defScope (top 11)) := ⟨rfl, rfl, rfl, by decide +kernel, rfl, by decide +kernel, by decide +kernel⟩
theorem df_need_cases (T : TF K mg) : Df P w K mg base (cA K) "need_cases" 3 2 F_need_cases := by
  obtain ⟨fd, FD⟩ := T.says.def_ 3 (d := dF "need_cases" 11) rfl
  refine df_mk (B := noObj) (k := 2) (g := g_need_cases) FD sc_need_cases (FD.bindsN fun _ _ _ _ _ _ us hl => match us, hl with | [_, _], _ => rfl) (T.glo 19) fun cdv A outer s H E G => ?_
  exact (dss_cons (ds_expr (de_call G.toGood (df_need_many T) (by decide) (da_cons (de_var (i := 0) rfl (.inl rfl)) da_nil))) (dss_cons (ds_if (dt_w (dw_or (dt_not (dt_val (de_isi G.toGood.K (T.free 4) (T.free 6) boot_listT (de_var (i := 1) rfl (.inl rfl))))) (dw_or1 (dt_not (dt_chain cLe cLe G.toGood.K de_int (de_len G.toGood.K (T.free 5) (da_cons (de_var (i := 1) rfl (.inl rfl)) da_nil)) (de_gint (T.int 54))))))) (dss_one (ds_raise (n := 2) G (T.exc rfl rfl 59 60))) dss_nil) (dss_one (ds_for G (di_enum G.toGood.K (T.free 2) (da_cons (de_var (i := 1) rfl (.inl rfl)) da_nil)) (dg_tup G.toGood.calm (dgs_cons (dg_name (i := 2) G.toGood.nd rfl (.inl rfl)) (dgs_cons (dg_name (i := 3) G.toGood.nd rfl (.inl rfl)) dgs_nil))) (dss_one (ds_if (dt_w (dw_or (dt_not (dt_val (de_call G.toGood (df_is_case T) (by decide) (da_cons (de_var (i := 0) rfl (.inl rfl)) (da_cons (de_var (i := 3) rfl (.inl rfl)) da_nil))))) (dw_or1 (dt_cmp (cIn G.toGood.room) G.toGood.K (de_var (i := 3) rfl (.inl rfl)) (de_sl G.toGood.K (de_var (i := 1) rfl (.inl rfl)) do_none (do_some (de_var (i := 2) rfl (.inl rfl)))) rfl)))) (dss_one (ds_raise (n := 2) G (T.exc rfl rfl 59 60))) dss_nil))))))
/-! ### is_pan -/
def g_is_pan_L1 : GS noObj := (gIf (tOrD (tNotD (tV (eCall 3 F_is_among (aCons (eVar 3) (aCons (eC (.int 0)) (aCons (e2 dSub (eVar 0) (eC (.int 1))) aNil)))))) (tAndD (tV (e2 dGt (eVar 2) (eC (.int 0)))) (tV (e2 dLe (eVar 3) (e2 dIx (eVar 1) (e2 dSub (eVar 2) (eC (.int 1)))))))) (gRet (eC (.bool false))) gNil)
def g_is_pan : GS noObj := (gSeq (gIf (tOrD (tNotD (tV (e1 (dIsi "tuple") (eVar 1)))) (tV (e2 dEq (eVar 1) (eTup aNil)))) (gRet (eC (.bool false))) gNil) (gSeq (gFor (iEnumD (aCons (eVar 1) aNil)) (gT 2 (gsC (gN 2) (gsC (gN 3) gsN))) g_is_pan_L1) (gRet (eC (.bool true)))))
def F_is_pan : List D → R D := runF 4 g_is_pan
theorem sc_is_pan : FnScope ["many", "thing", "place", "one"] ["many", "thing"] (defScope (top 13)) := ⟨rfl, rfl, rfl, by decide +kernel, rfl, by decide +kernel, by decide +kernel⟩
theorem df_is_pan (T : TF K mg) : Df P w K mg base (cA K) "is_pan" 2 2 F_is_pan := by
  obtain ⟨fd, FD⟩ := T.says.def_ 4 (d := dF "is_pan" 13) rfl
  refine df_mk (B := noObj) (k := 1) (g := g_is_pan) FD sc_is_pan (FD.bindsN fun _ _ _ _ _ _ us hl => match us, hl with | [_, _], _ => rfl) (T.glo 20) fun cdv A outer s H E G => ?_
  exact (dss_cons (ds_if (dt_w (dw_or (dt_not (dt_val (de_isi G.toGood.K (T.free 4) (T.free 14) boot_tupleT (de_var (i := 1) rfl (.inl rfl))))) (dw_or1 (dt_cmp (cEq G.toGood.room) G.toGood.K (de_var (i := 1) rfl (.inl rfl)) (de_tup da_nil) (nomark _))))) (dss_one (ds_ret de_bl)) dss_nil) (dss_cons (ds_for G (di_enum G.toGood.K (T.free 2) (da_cons (de_var (i := 1) rfl (.inl rfl)) da_nil)) (dg_tup G.toGood.calm (dgs_cons (dg_name (i := 2) G.toGood.nd rfl (.inl rfl)) (dgs_cons (dg_name (i := 3) G.toGood.nd rfl (.inl rfl)) dgs_nil))) (dss_one (ds_if (dt_w (dw_or (dt_not (dt_val (de_call G.toGood (df_is_among T) (by decide) (da_cons (de_var (i := 3) rfl (.inl rfl)) (da_cons de_int (da_cons (de_sub (de_var (i := 0) rfl (.inl rfl)) de_int) da_nil)))))) (dw_or1 (dt_w (dw_and (dt_cmp cGt G.toGood.K (de_var (i := 2) rfl (.inl rfl)) de_int (nomark _)) (dw_and1 (dt_cmp cLe G.toGood.K (de_var (i := 3) rfl (.inl rfl)) (de_ix G.toGood.K (de_var (i := 1) rfl (.inl rfl)) (de_sub (de_var (i := 2) rfl (.inl rfl)) de_int)) (nomark _)))))))) (dss_one (ds_ret de_bl)) dss_nil))) (dss_one (ds_ret de_bl))))
/-! ### is_weighing -/
def c_is_weighing_1 : Env noObj → R (List D) := (lLc (iSeq (e2 dIx (eVar 1) (eC (.int 0)))) (gN 2) (tV (e2 dIn (eVar 2) (e2 dIx (eVar 1) (eC (.int 1))))) (eVar 2) [2])
def g_is_weighing : GS noObj := (gSeq (gIf (tOrD (tNotD (tV (e1 (dIsi "tuple") (eVar 1)))) (tOrD (tV (e2 dNe (eA dLen (aCons (eVar 1) aNil)) (eC (.int 2)))) (tOrD (tNotD (tV (eCall 2 F_is_pan (aCons (eVar 0) (aCons (e2 dIx (eVar 1) (eC (.int 0))) aNil))))) (tNotD (tV (eCall 2 F_is_pan (aCons (eVar 0) (aCons (e2 dIx (eVar 1) (eC (.int 1))) aNil)))))))) (gRet (eC (.bool false))) gNil) (gRet (eAnd (e2 dEq (eA dLen (aCons (e2 dIx (eVar 1) (eC (.int 0))) aNil)) (eA dLen (aCons (e2 dIx (eVar 1) (eC (.int 1))) aNil))) (e2 dEq (eL c_is_weighing_1) (eLst aNil)))))
def F_is_weighing : List D → R D := runF 3 g_is_weighing
theorem sc_is_weighing : FnScope ["many", "thing", "one"] ["many", "thing"] (defScope (top 14)) := ⟨rfl, rfl, rfl, by decide +kernel, rfl, by decide +kernel, by decide +kernel⟩
theorem df_is_weighing (T : TF K mg) : Df P w K mg base (cA K) "is_weighing" 3 2 F_is_weighing := by
  obtain ⟨fd, FD⟩ := T.says.def_ 5 (d := dF "is_weighing" 14) rfl
  refine df_mk (B := noObj) (k := 2) (g := g_is_weighing) FD sc_is_weighing (FD.bindsN fun _ _ _ _ _ _ us hl => match us, hl with | [_, _], _ => rfl) (T.glo 21) fun cdv A outer s H E G => ?_
  exact (dss_cons (ds_if (dt_w (dw_or (dt_not (dt_val (de_isi G.toGood.K (T.free 4) (T.free 14) boot_tupleT (de_var (i := 1) rfl (.inr (.inl rfl)))))) (dw_or (dt_cmp (cNe G.toGood.room) G.toGood.K (de_len G.toGood.K (T.free 5) (da_cons (de_var (i := 1) rfl (.inr (.inl rfl))) da_nil)) de_int (nomark _)) (dw_or (dt_not (dt_val (de_call G.toGood (df_is_pan T) (by decide) (da_cons (de_var (i := 0) rfl (.inl rfl)) (da_cons (de_ix G.toGood.K (de_var (i := 1) rfl (.inr (.inl rfl))) de_int) da_nil))))) (dw_or1 (dt_not (dt_val (de_call G.toGood (df_is_pan T) (by decide) (da_cons (de_var (i := 0) rfl (.inl rfl)) (da_cons (de_ix G.toGood.K (de_var (i := 1) rfl (.inr (.inl rfl))) de_int) da_nil)))))))))) (dss_one (ds_ret de_bl)) dss_nil) (dss_one (ds_ret (de_and (de_cmp (cEq G.toGood.room) G.toGood.K (de_len G.toGood.K (T.free 5) (da_cons (de_ix G.toGood.K (de_var (i := 1) rfl (.inr (.inl rfl))) de_int) da_nil)) (de_len G.toGood.K (T.free 5) (da_cons (de_ix G.toGood.K (de_var (i := 1) rfl (.inr (.inl rfl))) de_int) da_nil)) (nomark _)) (de_one (de_cmp (cEq G.toGood.room) G.toGood.K (de_l (dl_lc (own := [("one", 2)]) G.toGood (di_seq G.toGood.K (de_ix G.toGood.K (de_var (i := 1) rfl (.inr (.inl rfl))) de_int)) (blkOk_by (by kernel_rfl)) (fun _ _ _ _ _ => (dg_name (i := 2) G.toGood.nd rfl (.inl rfl))) (by decide) (fun _ _ _ _ _ G1 => (dts_one (dt_cmp (cIn G1.room) G1.K (de_var (i := 2) rfl (.inl rfl)) (de_ix G1.K (de_var (i := 1) rfl (.inr (.inl rfl))) de_int) rfl))) (fun _ _ _ _ _ G1 => (de_var (i := 2) rfl (.inl rfl))))) (de_lst da_nil) (nomark _)))))))
/-! ### came -/
def c_came_1 : Env noObj → R (List D) := (lLc (iSeq (eVar 2)) (gN 5) tYesD (e2 dIx (eVar 1) (eVar 5)) [5])
def c_came_2 : Env noObj → R (List D) := (lLc (iSeq (eVar 3)) (gN 5) tYesD (e2 dIx (eVar 1) (eVar 5)) [5])
def g_came : GS noObj := (gSeq (gTgt (eVar 0) (gT 2 (gsC (gN 2) (gsC (gN 3) gsN)))) (gSeq (gSet 4 (e2 dSub (eA dSum (aCons (eL c_came_1) aNil)) (eA dSum (aCons (eL c_came_2) aNil)))) (gRet (e2 dSub (eA dInt (aCons (e2 dGt (eVar 4) (eC (.int 0))) aNil)) (eA dInt (aCons (e2 dLt (eVar 4) (eC (.int 0))) aNil))))))
def F_came : List D → R D := runF 6 g_came
theorem sc_came : FnScope ["weighing", "case", "left", "right", "more", "one"] ["weighing", "case"] (defScope (top 15)) := ⟨rfl, rfl, rfl, by decide +kernel, rfl, by decide +kernel, by decide +kernel⟩
theorem df_came (T : TF K mg) : Df P w K mg base (cA K) "came" 1 2 F_came := by
  obtain ⟨fd, FD⟩ := T.says.def_ 6 (d := dF "came" 15) rfl
  refine df_mk (B := noObj) (k := 0) (g := g_came) FD sc_came (FD.bindsN fun _ _ _ _ _ _ us hl => match us, hl with | [_, _], _ => rfl) (T.glo 22) fun cdv A outer s H E G => ?_
  exact (dss_cons (ds_tgt G.toGood.K (de_var (i := 0) rfl (.inl rfl)) (dg_tup G.toGood.calm (dgs_cons (dg_name (i := 2) G.toGood.nd rfl (.inl rfl)) (dgs_cons (dg_name (i := 3) G.toGood.nd rfl (.inl rfl)) dgs_nil)))) (dss_cons (ds_set G.toGood.nd rfl (.inl rfl) (de_sub (de_sum G.toGood.K G.toGood.calm (T.free 13) (da_cons (de_l (dl_lc (own := [("one", 5)]) G.toGood (di_seq G.toGood.K (de_var (i := 2) rfl (.inl rfl))) (blkOk_by (by kernel_rfl)) (fun _ _ _ _ _ => (dg_name (i := 5) G.toGood.nd rfl (.inl rfl))) (by decide) (fun _ _ _ _ _ G1 => dts_nil) (fun _ _ _ _ _ G1 => (de_ix G1.K (de_var (i := 1) rfl (.inr (.inl rfl))) (de_var (i := 5) rfl (.inl rfl)))))) da_nil)) (de_sum G.toGood.K G.toGood.calm (T.free 13) (da_cons (de_l (dl_lc (own := [("one", 5)]) G.toGood (di_seq G.toGood.K (de_var (i := 3) rfl (.inl rfl))) (blkOk_by (by kernel_rfl)) (fun _ _ _ _ _ => (dg_name (i := 5) G.toGood.nd rfl (.inl rfl))) (by decide) (fun _ _ _ _ _ G1 => dts_nil) (fun _ _ _ _ _ G1 => (de_ix G1.K (de_var (i := 1) rfl (.inr (.inl rfl))) (de_var (i := 5) rfl (.inl rfl)))))) da_nil)))) (dss_one (ds_ret (de_sub (de_intc (T.free 3) (da_cons (de_cmp cGt G.toGood.K (de_var (i := 4) rfl (.inl rfl)) de_int (nomark _)) da_nil)) (de_intc (T.free 3) (da_cons (de_cmp cLt G.toGood.K (de_var (i := 4) rfl (.inl rfl)) de_int (nomark _)) da_nil)))))))
/-! ### cases_by -/
def c_cases_by_1 : Env noObj → R (List D) := (lLc (iSeq (eVar 1)) (gN 3) (tV (e2 dEq (eCall 2 F_came (aCons (eVar 0) (aCons (eVar 3) aNil))) (eVar 2))) (eVar 3) [3])
def g_cases_by : GS noObj := (gRet (eL c_cases_by_1))
def F_cases_by : List D → R D := runF 4 g_cases_by
theorem sc_cases_by : FnScope ["weighing", "cases", "due", "case"] ["weighing", "cases", "due"] (defScope (top 18)) := ⟨rfl, rfl, rfl, by decide +kernel, rfl, by decide +kernel, by decide +kernel⟩
theorem df_cases_by (T : TF K mg) : Df P w K mg base (cA K) "cases_by" 2 3 F_cases_by := by
  obtain ⟨fd, FD⟩ := T.says.def_ 7 (d := dF "cases_by" 18) rfl
  refine df_mk (B := noObj) (k := 1) (g := g_cases_by) FD sc_cases_by (FD.bindsN fun _ _ _ _ _ _ us hl => match us, hl with | [_, _, _], _ => rfl) (T.glo 23) fun cdv A outer s H E G => ?_
  exact (dss_one (ds_ret (de_l (dl_lc (own := [("case", 3)]) G.toGood (di_seq G.toGood.K (de_var (i := 1) rfl (.inl rfl))) (blkOk_by (by kernel_rfl)) (fun _ _ _ _ _ => (dg_name (i := 3) G.toGood.nd rfl (.inl rfl))) (by decide) (fun _ _ _ _ _ G1 => (dts_one (dt_cmp (cEq G1.room) G1.K (de_call G1 (df_came T) (by decide) (da_cons (de_var (i := 0) rfl (.inr (.inl rfl))) (da_cons (de_var (i := 3) rfl (.inl rfl)) da_nil))) (de_var (i := 2) rfl (.inr (.inl rfl))) (nomark _)))) (fun _ _ _ _ _ G1 => (de_var (i := 3) rfl (.inl rfl)))))))
/-! ### is_alike -/
def c_is_alike_1 : Env noObj → R (List D) := (lLc (iSeq (eVar 1)) (gN 2) tYesD (eCall 3 F_is_among (aCons (eVar 2) (aCons (e1 dNeg (eC (.int 1))) (aCons (eC (.int 1)) aNil)))) [2])
def g_is_alike : GS noObj := (gRet (eAnd (e1 (dIsi "tuple") (eVar 1)) (eAnd (e2 dEq (eVar 1) (eVar 0)) (eA dAll (aCons (eL c_is_alike_1) aNil)))))
def F_is_alike : List D → R D := runF 3 g_is_alike
theorem sc_is_alike : FnScope ["case", "thing", "one"] ["case", "thing"] (defScope (top 21)) := ⟨rfl, rfl, rfl, by decide +kernel, rfl, by decide +kernel, by decide +kernel⟩
theorem df_is_alike (T : TF K mg) : Df P w K mg base (cA K) "is_alike" 2 2 F_is_alike := by
  obtain ⟨fd, FD⟩ := T.says.def_ 10 (d := dF "is_alike" 21) rfl
  refine df_mk (B := noObj) (k := 1) (g := g_is_alike) FD sc_is_alike (FD.bindsN fun _ _ _ _ _ _ us hl => match us, hl with | [_, _], _ => rfl) (T.glo 26) fun cdv A outer s H E G => ?_
  exact (dss_one (ds_ret (de_and (de_isi G.toGood.K (T.free 4) (T.free 14) boot_tupleT (de_var (i := 1) rfl (.inl rfl))) (de_and (de_cmp (cEq G.toGood.room) G.toGood.K (de_var (i := 1) rfl (.inl rfl)) (de_var (i := 0) rfl (.inl rfl)) (nomark _)) (de_one (de_all G.toGood.K G.toGood.calm (T.free 0) (da_cons (de_l (dl_lc (own := [("one", 2)]) G.toGood (di_seq G.toGood.K (de_var (i := 1) rfl (.inl rfl))) (blkOk_by (by kernel_rfl)) (fun _ _ _ _ _ => (dg_name (i := 2) G.toGood.nd rfl (.inl rfl))) (by decide) (fun _ _ _ _ _ G1 => dts_nil) (fun _ _ _ _ _ G1 => (de_call G1 (df_is_among T) (by decide) (da_cons (de_var (i := 2) rfl (.inl rfl)) (da_cons (de_neg de_int) (da_cons de_int da_nil))))))) da_nil)))))))
/-! ### are_parts -/
def g_are_parts_L1 (R_are_parts R_is_plan_for : List D → R D) : GS noObj := (gSeq (gSet 6 (eCall 3 F_cases_by (aCons (eVar 1) (aCons (eVar 2) (aCons (eVar 4) aNil))))) (gIf (tV (e2 dEq (eVar 6) (eLst aNil))) (gIf (tV (e2 dIsNot (eVar 5) (eC .none))) (gRet (eC (.bool false))) gNil) (gIf (tNotD (tV (eCall 3 R_is_plan_for (aCons (eVar 0) (aCons (eVar 6) (aCons (eVar 5) aNil)))))) (gRet (eC (.bool false))) gNil)))
def g_are_parts (R_are_parts R_is_plan_for : List D → R D) : GS noObj := (gSeq (gFor (iZipD (aCons (eC (.tuple (([-1, 0, 1] : List Int).map PyData.int))) (aCons (eVar 3) aNil))) (gT 2 (gsC (gN 4) (gsC (gN 5) gsN))) (g_are_parts_L1 R_are_parts R_is_plan_for)) (gRet (eC (.bool true))))
theorem sc_are_parts : FnScope ["many", "weighing", "cases", "parts", "due", "part", "left"] ["many", "weighing", "cases", "parts"] (defScope (top 19)) := ⟨rfl, rfl, rfl, by decide +kernel, rfl, by decide +kernel, by decide +kernel⟩
/-! ### is_plan_for -/
def g_is_plan_for (R_are_parts R_is_plan_for : List D → R D) : GS noObj := (gSeq (gIf (tOrD (tNotD (tV (e1 (dIsi "tuple") (eVar 2)))) (tOrD (tV (e2 dLt (eA dLen (aCons (eVar 2) aNil)) (eC (.int 2)))) (tNotD (tV (e1 (dIsi "str") (e2 dIx (eVar 2) (eC (.int 0)))))))) (gRet (eC (.bool false))) gNil) (gSeq (gIf (tV (e2 dEq (e2 dIx (eVar 2) (eC (.int 0))) (eC (.str (Str.ofString "told"))))) (gRet (eAnd (e2 dEq (eA dLen (aCons (eVar 2) aNil)) (eC (.int 2))) (eAnd (e2 dEq (eA dLen (aCons (eVar 1) aNil)) (eC (.int 1))) (eCall 2 F_is_alike (aCons (e2 dIx (eVar 1) (eC (.int 0))) (aCons (e2 dIx (eVar 2) (eC (.int 1))) aNil)))))) gNil) (gSeq (gIf (tOrD (tV (e2 dNe (e2 dIx (eVar 2) (eC (.int 0))) (eC (.str (Str.ofString "weigh"))))) (tOrD (tV (e2 dNe (eA dLen (aCons (eVar 2) aNil)) (eC (.int 3)))) (tNotD (tV (eCall 2 F_is_weighing (aCons (eVar 0) (aCons (e2 dIx (eVar 2) (eC (.int 1))) aNil))))))) (gRet (eC (.bool false))) gNil) (gSeq (gIf (tOrD (tNotD (tV (e1 (dIsi "tuple") (e2 dIx (eVar 2) (eC (.int 2)))))) (tV (e2 dNe (eA dLen (aCons (e2 dIx (eVar 2) (eC (.int 2))) aNil)) (eC (.int 3))))) (gRet (eC (.bool false))) gNil) (gRet (eCall 4 R_are_parts (aCons (eVar 0) (aCons (e2 dIx (eVar 2) (eC (.int 1))) (aCons (eVar 1) (aCons (e2 dIx (eVar 2) (eC (.int 2))) aNil))))))))))
theorem sc_is_plan_for : FnScope ["many", "cases", "thing"] ["many", "cases", "thing"] (defScope (top 20)) := ⟨rfl, rfl, rfl, by decide +kernel, rfl, by decide +kernel, by decide +kernel⟩
def FF_are_parts : Nat → (List D → R D) × (List D → R D)
  | 0 => (fun _ => .stuck, fun _ => .stuck)
  | n + 1 => (runF 7 (g_are_parts (FF_are_parts n).1 (FF_are_parts n).2), runF 3 (g_is_plan_for (FF_are_parts n).1 (FF_are_parts n).2))
def F_are_parts (n : Nat) : List D → R D := (FF_are_parts n).1
def F_is_plan_for (n : Nat) : List D → R D := (FF_are_parts n).2
theorem dfs_are_parts (T : TF K mg) : ∀ n, Df P w K mg base (cA K) "are_parts" (3 + n) 4 (F_are_parts n) ∧ Df P w K mg base (cA K) "is_plan_for" (3 + n) 3 (F_is_plan_for n)
  | 0 => by
    refine ⟨?_, ?_⟩
    · obtain ⟨fd, FD⟩ := T.says.def_ 8 (d := dF "are_parts" 19) rfl
      exact df_stuck FD (FD.bindsN (ps := ["many", "weighing", "cases", "parts"]) fun _ _ _ _ _ _ us hl => match us, hl with | [_, _, _, _], _ => rfl) (T.glo 24)
    · obtain ⟨fd, FD⟩ := T.says.def_ 9 (d := dF "is_plan_for" 20) rfl
      exact df_stuck FD (FD.bindsN (ps := ["many", "cases", "thing"]) fun _ _ _ _ _ _ us hl => match us, hl with | [_, _, _], _ => rfl) (T.glo 25)
  | n + 1 => by
    obtain ⟨IH_are_parts, IH_is_plan_for⟩ := dfs_are_parts T n
    refine ⟨?_, ?_⟩
    · obtain ⟨fd, FD⟩ := T.says.def_ 8 (d := dF "are_parts" 19) rfl
      refine df_mk (B := noObj) (N := ["many", "weighing", "cases", "parts", "due", "part", "left"]) (ps := ["many", "weighing", "cases", "parts"]) (k := 3 + n) (g := g_are_parts (F_are_parts n) (F_is_plan_for n)) FD sc_are_parts (FD.bindsN (ps := ["many", "weighing", "cases", "parts"]) fun _ _ _ _ _ _ us hl => match us, hl with | [_, _, _, _], _ => rfl) (T.glo 24) fun cdv A outer s H E G => ?_
      exact (dss_cons (ds_for G (di_zip G.toGood.K (T.free 15) (da_cons (de_gtup (tup_OUTCOMES T) (T.glo 61)) (da_cons (de_var (i := 3) rfl (.inl rfl)) da_nil))) (dg_tup G.toGood.calm (dgs_cons (dg_name (i := 4) G.toGood.nd rfl (.inl rfl)) (dgs_cons (dg_name (i := 5) G.toGood.nd rfl (.inl rfl)) dgs_nil))) (dss_cons (ds_set G.toGood.nd rfl (.inl rfl) (de_call G.toGood (df_cases_by T) (by omega) (da_cons (de_var (i := 1) rfl (.inl rfl)) (da_cons (de_var (i := 2) rfl (.inl rfl)) (da_cons (de_var (i := 4) rfl (.inl rfl)) da_nil))))) (dss_one (ds_if (dt_cmp (cEq G.toGood.room) G.toGood.K (de_var (i := 6) rfl (.inl rfl)) (de_lst da_nil) (nomark _)) (dss_one (ds_if (dt_cmp cIsNot G.toGood.K (de_var (i := 5) rfl (.inl rfl)) de_non (nomark _)) (dss_one (ds_ret de_bl)) dss_nil)) (dss_one (ds_if (dt_not (dt_val (de_call G.toGood IH_is_plan_for (Nat.le_refl _) (da_cons (de_var (i := 0) rfl (.inl rfl)) (da_cons (de_var (i := 6) rfl (.inl rfl)) (da_cons (de_var (i := 5) rfl (.inl rfl)) da_nil)))))) (dss_one (ds_ret de_bl)) dss_nil)))))) (dss_one (ds_ret de_bl)))
    · obtain ⟨fd, FD⟩ := T.says.def_ 9 (d := dF "is_plan_for" 20) rfl
      refine df_mk (B := noObj) (N := ["many", "cases", "thing"]) (ps := ["many", "cases", "thing"]) (k := 3 + n) (g := g_is_plan_for (F_are_parts n) (F_is_plan_for n)) FD sc_is_plan_for (FD.bindsN (ps := ["many", "cases", "thing"]) fun _ _ _ _ _ _ us hl => match us, hl with | [_, _, _], _ => rfl) (T.glo 25) fun cdv A outer s H E G => ?_
      exact (dss_cons (ds_if (dt_w (dw_or (dt_not (dt_val (de_isi G.toGood.K (T.free 4) (T.free 14) boot_tupleT (de_var (i := 2) rfl (.inl rfl))))) (dw_or (dt_cmp cLt G.toGood.K (de_len G.toGood.K (T.free 5) (da_cons (de_var (i := 2) rfl (.inl rfl)) da_nil)) de_int (nomark _)) (dw_or1 (dt_not (dt_val (de_isi G.toGood.K (T.free 4) (T.free 12) boot_strT (de_ix G.toGood.K (de_var (i := 2) rfl (.inl rfl)) de_int)))))))) (dss_one (ds_ret de_bl)) dss_nil) (dss_cons (ds_if (dt_cmp (cEq G.toGood.room) G.toGood.K (de_ix G.toGood.K (de_var (i := 2) rfl (.inl rfl)) de_int) de_str (nomark _)) (dss_one (ds_ret (de_and (de_cmp (cEq G.toGood.room) G.toGood.K (de_len G.toGood.K (T.free 5) (da_cons (de_var (i := 2) rfl (.inl rfl)) da_nil)) de_int (nomark _)) (de_and (de_cmp (cEq G.toGood.room) G.toGood.K (de_len G.toGood.K (T.free 5) (da_cons (de_var (i := 1) rfl (.inl rfl)) da_nil)) de_int (nomark _)) (de_one (de_call G.toGood (df_is_alike T) (by omega) (da_cons (de_ix G.toGood.K (de_var (i := 1) rfl (.inl rfl)) de_int) (da_cons (de_ix G.toGood.K (de_var (i := 2) rfl (.inl rfl)) de_int) da_nil)))))))) dss_nil) (dss_cons (ds_if (dt_w (dw_or (dt_cmp (cNe G.toGood.room) G.toGood.K (de_ix G.toGood.K (de_var (i := 2) rfl (.inl rfl)) de_int) de_str (nomark _)) (dw_or (dt_cmp (cNe G.toGood.room) G.toGood.K (de_len G.toGood.K (T.free 5) (da_cons (de_var (i := 2) rfl (.inl rfl)) da_nil)) de_int (nomark _)) (dw_or1 (dt_not (dt_val (de_call G.toGood (df_is_weighing T) (by omega) (da_cons (de_var (i := 0) rfl (.inl rfl)) (da_cons (de_ix G.toGood.K (de_var (i := 2) rfl (.inl rfl)) de_int) da_nil))))))))) (dss_one (ds_ret de_bl)) dss_nil) (dss_cons (ds_if (dt_w (dw_or (dt_not (dt_val (de_isi G.toGood.K (T.free 4) (T.free 14) boot_tupleT (de_ix G.toGood.K (de_var (i := 2) rfl (.inl rfl)) de_int)))) (dw_or1 (dt_cmp (cNe G.toGood.room) G.toGood.K (de_len G.toGood.K (T.free 5) (da_cons (de_ix G.toGood.K (de_var (i := 2) rfl (.inl rfl)) de_int) da_nil)) de_int (nomark _))))) (dss_one (ds_ret de_bl)) dss_nil) (dss_one (ds_ret (de_call G.toGood IH_are_parts (Nat.le_refl _) (da_cons (de_var (i := 0) rfl (.inl rfl)) (da_cons (de_ix G.toGood.K (de_var (i := 2) rfl (.inl rfl)) de_int) (da_cons (de_var (i := 1) rfl (.inl rfl)) (da_cons (de_ix G.toGood.K (de_var (i := 2) rfl (.inl rfl)) de_int) da_nil)))))))))))
theorem df_are_parts (T : TF K mg) (n : Nat) : Df P w K mg base (cA K) "are_parts" (3 + n) 4 (F_are_parts n) := (dfs_are_parts T n).1
theorem df_is_plan_for (T : TF K mg) (n : Nat) : Df P w K mg base (cA K) "is_plan_for" (3 + n) 3 (F_is_plan_for n) := (dfs_are_parts T n).2
/-! ### is_plan -/
def g_is_plan : GS noObj := (gSeq (gDrop (eCall 2 F_need_cases (aCons (eVar 0) (aCons (eVar 1) aNil)))) (gRet (eCall 3 (F_is_plan_for 40) (aCons (eVar 0) (aCons (eVar 1) (aCons (eVar 2) aNil))))))
def F_is_plan : List D → R D := runF 3 g_is_plan
theorem sc_is_plan : FnScope ["many", "cases", "thing"] ["many", "cases", "thing"] (defScope (top 22)) := ⟨rfl, rfl, rfl, by decide +kernel, rfl, by decide +kernel, by decide +kernel⟩
theorem df_is_plan (T : TF K mg) : Df P w K mg base (cA K) "is_plan" 44 3 F_is_plan := by
  obtain ⟨fd, FD⟩ := T.says.def_ 11 (d := dF "is_plan" 22) rfl
  refine df_mk (B := noObj) (k := 43) (g := g_is_plan) FD sc_is_plan (FD.bindsN fun _ _ _ _ _ _ us hl => match us, hl with | [_, _, _], _ => rfl) (T.glo 27) fun cdv A outer s H E G => ?_
  exact (dss_cons (ds_expr (de_call G.toGood (df_need_cases T) (by decide) (da_cons (de_var (i := 0) rfl (.inl rfl)) (da_cons (de_var (i := 1) rfl (.inl rfl)) da_nil)))) (dss_one (ds_ret (de_call G.toGood (df_is_plan_for T 40) (by decide) (da_cons (de_var (i := 0) rfl (.inl rfl)) (da_cons (de_var (i := 1) rfl (.inl rfl)) (da_cons (de_var (i := 2) rfl (.inl rfl)) da_nil)))))))
/-! ### length_of -/
def c_length_of_1 (R_length_of : List D → R D) : Env noObj → R (List D) := (lLc (iSeq (e2 dIx (eVar 0) (eC (.int 2)))) (gN 1) (tV (e2 dIsNot (eVar 1) (eC .none))) (eCall 1 R_length_of (aCons (eVar 1) aNil)) [1])
def g_length_of (R_length_of : List D → R D) : GS noObj := (gSeq (gIf (tV (e2 dEq (e2 dIx (eVar 0) (eC (.int 0))) (eC (.str (Str.ofString "told"))))) (gRet (eC (.int 0))) gNil) (gRet (e2 dAdd (eC (.int 1)) (eA dMax (aCons (eL (c_length_of_1 R_length_of)) aNil)))))
theorem sc_length_of : FnScope ["plan", "part"] ["plan"] (defScope (top 23)) := ⟨rfl, rfl, rfl, by decide +kernel, rfl, by decide +kernel, by decide +kernel⟩
def F_length_of : Nat → List D → R D
  | 0 => fun _ => .stuck
  | n + 1 => runF 2 (g_length_of (F_length_of n))
theorem dfs_length_of (T : TF K mg) : ∀ n, Df P w K mg base (cA K) "length_of" (0 + n) 1 (F_length_of n)
  | 0 => by
    obtain ⟨fd, FD⟩ := T.says.def_ 12 (d := dF "length_of" 23) rfl
    exact df_stuck FD (FD.bindsN (ps := ["plan"]) fun _ _ _ _ _ _ us hl => match us, hl with | [_], _ => rfl) (T.glo 28)
  | n + 1 => by
    have IH_length_of := dfs_length_of T n
    obtain ⟨fd, FD⟩ := T.says.def_ 12 (d := dF "length_of" 23) rfl
    refine df_mk (B := noObj) (N := ["plan", "part"]) (ps := ["plan"]) (k := 0 + n) (g := g_length_of (F_length_of n)) FD sc_length_of (FD.bindsN (ps := ["plan"]) fun _ _ _ _ _ _ us hl => match us, hl with | [_], _ => rfl) (T.glo 28) fun cdv A outer s H E G => ?_
    exact (dss_cons (ds_if (dt_cmp (cEq G.toGood.room) G.toGood.K (de_ix G.toGood.K (de_var (i := 0) rfl (.inl rfl)) de_int) de_str (nomark _)) (dss_one (ds_ret de_int)) dss_nil) (dss_one (ds_ret (de_add G.toGood.K de_int (de_max G.toGood.K G.toGood.calm (T.free 7) (da_cons (de_l (dl_lc (own := [("part", 1)]) G.toGood (di_seq G.toGood.K (de_ix G.toGood.K (de_var (i := 0) rfl (.inl rfl)) de_int)) (blkOk_by (by kernel_rfl)) (fun _ _ _ _ _ => (dg_name (i := 1) G.toGood.nd rfl (.inl rfl))) (by decide) (fun _ _ _ _ _ G1 => (dts_one (dt_cmp cIsNot G1.K (de_var (i := 1) rfl (.inl rfl)) de_non (nomark _)))) (fun _ _ _ _ _ G1 => (de_call G1 IH_length_of (Nat.le_refl _) (da_cons (de_var (i := 1) rfl (.inl rfl)) da_nil))))) da_nil))))))
theorem df_length_of (T : TF K mg) (n : Nat) : Df P w K mg base (cA K) "length_of" (0 + n) 1 (F_length_of n) := (dfs_length_of T n)
/-! ### walked -/
def g_walked_L1 : GS noObj := (gSeq (gSet 3 (eCall 2 F_came (aCons (e2 dIx (eVar 0) (eC (.int 1))) (aCons (eVar 1) aNil)))) (gSeq (gApp 2 (eTup (aCons (e2 dIx (eVar 0) (eC (.int 1))) (aCons (eVar 3) aNil)))) (gSet 0 (e2 dIx (e2 dIx (eVar 0) (eC (.int 2))) (e2 dAdd (eVar 3) (eC (.int 1)))))))
def g_walked : GS noObj := (gSeq (gOwn 2 (lDisp aNil)) (gSeq (whileF (tV (e2 dEq (e2 dIx (eVar 0) (eC (.int 0))) (eC (.str (Str.ofString "weigh"))))) g_walked_L1 60) (gRetO 2)))
def F_walked : List D → R (List D) := runL 4 g_walked
theorem sc_walked : FnScope ["plan", "case", "found", "due"] ["plan", "case"] (defScope (top 24)) := ⟨rfl, rfl, rfl, by decide +kernel, rfl, by decide +kernel, by decide +kernel⟩
theorem df_walked (T : TF K mg) : DfL P w K mg base (cA K) "walked" 2 2 F_walked := by
  obtain ⟨fd, FD⟩ := T.says.def_ 13 (d := dF "walked" 24) rfl
  refine dfl_mk (B := noObj) (k := 1) (g := g_walked) FD sc_walked (FD.bindsN fun _ _ _ _ _ _ us hl => match us, hl with | [_, _], _ => rfl) (T.glo 29) fun cdv A outer s H E G => ?_
  exact (dss_cons (ds_own G.toGood.nd rfl (.inl rfl) (dl_lst da_nil)) (dss_cons (ds_while 60 G (dt_cmp (cEq G.toGood.room) G.toGood.K (de_ix G.toGood.K (de_var (i := 0) rfl (.inl rfl)) de_int) de_str (nomark _)) (dss_cons (ds_set G.toGood.nd rfl (.inl rfl) (de_call G.toGood (df_came T) (by decide) (da_cons (de_ix G.toGood.K (de_var (i := 0) rfl (.inl rfl)) de_int) (da_cons (de_var (i := 1) rfl (.inl rfl)) da_nil)))) (dss_cons (ds_app (i := 2) rfl (.inl rfl) (de_tup (da_cons (de_ix G.toGood.K (de_var (i := 0) rfl (.inl rfl)) de_int) (da_cons (de_var (i := 3) rfl (.inl rfl)) da_nil)))) (dss_one (ds_set G.toGood.nd rfl (.inl rfl) (de_ix G.toGood.K (de_ix G.toGood.K (de_var (i := 0) rfl (.inl rfl)) de_int) (de_add G.toGood.K (de_var (i := 3) rfl (.inl rfl)) de_int))))))) (dss_one (ds_retO (i := 2) rfl (.inl rfl)))))
/-! ### _law_cell_at -/
def g__law_cell_at : GS noObj := (gSeq (gIf (tV (e2 dLt (eVar 1) (eA dLen (aCons (eVar 0) aNil)))) (gRet (e2 dIx (eVar 0) (eVar 1))) gNil) (gRet (eC (.int 0))))
def F__law_cell_at : List D → R D := runF 2 g__law_cell_at
theorem sc__law_cell_at : FnScope ["_law_script", "_law_k"] ["_law_script", "_law_k"] (defScope (top 26)) := ⟨rfl, rfl, rfl, by decide +kernel, rfl, by decide +kernel, by decide +kernel⟩
theorem df__law_cell_at (T : TF K mg) : Df P w K mg base (cA K) "_law_cell_at" 1 2 F__law_cell_at := by
  obtain ⟨fd, FD⟩ := T.says.def_ 14 (d := dF "_law_cell_at" 26) rfl
  refine df_mk (B := noObj) (k := 0) (g := g__law_cell_at) FD sc__law_cell_at (FD.bindsN fun _ _ _ _ _ _ us hl => match us, hl with | [_, _], _ => rfl) (T.glo 30) fun cdv A outer s H E G => ?_
  exact (dss_cons (ds_if (dt_cmp cLt G.toGood.K (de_var (i := 1) rfl (.inl rfl)) (de_len G.toGood.K (T.free 5) (da_cons (de_var (i := 0) rfl (.inl rfl)) da_nil)) (nomark _)) (dss_one (ds_ret (de_ix G.toGood.K (de_var (i := 0) rfl (.inl rfl)) (de_var (i := 1) rfl (.inl rfl))))) dss_nil) (dss_one (ds_ret de_int)))
/-! ### _law_mixed -/
def g__law_mixed : GS noObj := (gRet (e2 dDiv (e2 dMod (e2 dMul (e2 dAdd (e2 dAdd (eCall 2 F__law_cell_at (aCons (eVar 0) (aCons (eVar 1) aNil))) (e2 dMul (eC (.int 7919)) (eVar 1))) (eC (.int 13))) (eC (.int 48271))) (eC (.int 2147483647))) (eC (.int 3))))
def F__law_mixed : List D → R D := runF 2 g__law_mixed
theorem sc__law_mixed : FnScope ["_law_script", "_law_k"] ["_law_script", "_law_k"] (defScope (top 27)) := ⟨rfl, rfl, rfl, by decide +kernel, rfl, by decide +kernel, by decide +kernel⟩
theorem df__law_mixed (T : TF K mg) : Df P w K mg base (cA K) "_law_mixed" 2 2 F__law_mixed := by
  obtain ⟨fd, FD⟩ := T.says.def_ 15 (d := dF "_law_mixed" 27) rfl
  refine df_mk (B := noObj) (k := 1) (g := g__law_mixed) FD sc__law_mixed (FD.bindsN fun _ _ _ _ _ _ us hl => match us, hl with | [_, _], _ => rfl) (T.glo 31) fun cdv A outer s H E G => ?_
  exact (dss_one (ds_ret (de_div (de_mod (de_mul G.toGood.K (de_add G.toGood.K (de_add G.toGood.K (de_call G.toGood (df__law_cell_at T) (by decide) (da_cons (de_var (i := 0) rfl (.inl rfl)) (da_cons (de_var (i := 1) rfl (.inl rfl)) da_nil))) (de_mul G.toGood.K de_int (de_var (i := 1) rfl (.inl rfl)))) de_int) de_int) de_int) de_int)))
/-! ### _law_whole -/
def g__law_whole : GS noObj := (gRet (eAnd (e1 (dIsi "int") (eVar 0)) (eNot (e1 (dIsi "bool") (eVar 0)))))
def F__law_whole : List D → R D := runF 1 g__law_whole
theorem sc__law_whole : FnScope ["_law_found"] ["_law_found"] (defScope (top 28)) := ⟨rfl, rfl, rfl, by decide +kernel, rfl, by decide +kernel, by decide +kernel⟩
theorem df__law_whole (T : TF K mg) : Df P w K mg base (cA K) "_law_whole" 1 1 F__law_whole := by
  obtain ⟨fd, FD⟩ := T.says.def_ 16 (d := dF "_law_whole" 28) rfl
  refine df_mk (B := noObj) (k := 0) (g := g__law_whole) FD sc__law_whole (FD.bindsN fun _ _ _ _ _ _ us hl => match us, hl with | [_], _ => rfl) (T.glo 32) fun cdv A outer s H E G => ?_
  exact (dss_one (ds_ret (de_and (de_isi G.toGood.K (T.free 4) (T.free 3) boot_intT (de_var (i := 0) rfl (.inl rfl))) (de_one (de_not (de_isi G.toGood.K (T.free 4) (T.free 1) boot_boolT (de_var (i := 0) rfl (.inl rfl))))))))
/-! ### _law_came -/
def g__law_came_L1 : GS noObj := (gSet 2 (e2 dAdd (eVar 2) (e2 dIx (eVar 1) (eVar 3))))
def g__law_came_L2 : GS noObj := (gSet 2 (e2 dSub (eVar 2) (e2 dIx (eVar 1) (eVar 3))))
def g__law_came : GS noObj := (gSeq (gSet 2 (eC (.int 0))) (gSeq (gFor (iSeq (e2 dIx (eVar 0) (eC (.int 0)))) (gN 3) g__law_came_L1) (gSeq (gFor (iSeq (e2 dIx (eVar 0) (eC (.int 1)))) (gN 3) g__law_came_L2) (gRet (eIf (tV (e2 dGt (eVar 2) (eC (.int 0)))) (eC (.int 1)) (eIf (tV (e2 dLt (eVar 2) (eC (.int 0)))) (e1 dNeg (eC (.int 1))) (eC (.int 0))))))))
def F__law_came : List D → R D := runF 4 g__law_came
theorem sc__law_came : FnScope ["_law_weighing", "_law_case", "_law_more", "_law_one"] ["_law_weighing", "_law_case"] (defScope (top 29)) := ⟨rfl, rfl, rfl, by decide +kernel, rfl, by decide +kernel, by decide +kernel⟩
theorem df__law_came (T : TF K mg) : Df P w K mg base (cA K) "_law_came" 1 2 F__law_came := by
  obtain ⟨fd, FD⟩ := T.says.def_ 17 (d := dF "_law_came" 29) rfl
  refine df_mk (B := noObj) (k := 0) (g := g__law_came) FD sc__law_came (FD.bindsN fun _ _ _ _ _ _ us hl => match us, hl with | [_, _], _ => rfl) (T.glo 33) fun cdv A outer s H E G => ?_
  exact (dss_cons (ds_set G.toGood.nd rfl (.inl rfl) de_int) (dss_cons (ds_for G (di_seq G.toGood.K (de_ix G.toGood.K (de_var (i := 0) rfl (.inl rfl)) de_int)) (dg_name (i := 3) G.toGood.nd rfl (.inl rfl)) (dss_one (ds_set G.toGood.nd rfl (.inl rfl) (de_add G.toGood.K (de_var (i := 2) rfl (.inl rfl)) (de_ix G.toGood.K (de_var (i := 1) rfl (.inl rfl)) (de_var (i := 3) rfl (.inl rfl))))))) (dss_cons (ds_for G (di_seq G.toGood.K (de_ix G.toGood.K (de_var (i := 0) rfl (.inl rfl)) de_int)) (dg_name (i := 3) G.toGood.nd rfl (.inl rfl)) (dss_one (ds_set G.toGood.nd rfl (.inl rfl) (de_sub (de_var (i := 2) rfl (.inl rfl)) (de_ix G.toGood.K (de_var (i := 1) rfl (.inl rfl)) (de_var (i := 3) rfl (.inl rfl))))))) (dss_one (ds_ret (de_if (dt_cmp cGt G.toGood.K (de_var (i := 2) rfl (.inl rfl)) de_int (nomark _)) de_int (de_if (dt_cmp cLt G.toGood.K (de_var (i := 2) rfl (.inl rfl)) de_int (nomark _)) (de_neg de_int) de_int)))))))
/-! ### _law_pans -/
def c__law_pans_1 : Env noObj → R (List D) := (lLc (iRng1 (aCons (eVar 0) aNil)) (gN 6) tYesD (e2 dMod (e2 dDiv (eVar 2) (e2 dIx (eLst (aCons (eC (.int 1)) (aCons (eC (.int 3)) (aCons (eC (.int 9)) (aCons (eC (.int 27)) (aCons (eC (.int 81)) aNil)))))) (eVar 6))) (eC (.int 3))) [6])
def c__law_pans_2 : Env noObj → R (List D) := (lLc (iRng1 (aCons (eVar 0) aNil)) (gN 6) (tV (e2 dEq (e2 dIx (eVar 3) (eVar 6)) (eC (.int 1)))) (eVar 6) [6])
def c__law_pans_3 : Env noObj → R (List D) := (lLc (iRng1 (aCons (eVar 0) aNil)) (gN 6) (tV (e2 dEq (e2 dIx (eVar 3) (eVar 6)) (eC (.int 2)))) (eVar 6) [6])
def g__law_pans_L1 : GS noObj := (gSeq (gSet 3 (eL c__law_pans_1)) (gSeq (gSet 4 (eA dTuple (aCons (eL c__law_pans_2) aNil))) (gSeq (gSet 5 (eA dTuple (aCons (eL c__law_pans_3) aNil))) (gIf (tAndD (tV (e2 dEq (eA dLen (aCons (eVar 4) aNil)) (eA dLen (aCons (eVar 5) aNil)))) (tAndD (tV (e2 dNe (eVar 4) (eTup aNil))) (tV (e2 dLt (e2 dIx (eVar 4) (eC (.int 0))) (e2 dIx (eVar 5) (eC (.int 0))))))) (gApp 1 (eTup (aCons (eVar 4) (aCons (eVar 5) aNil)))) gNil))))
def g__law_pans : GS noObj := (gSeq (gOwn 1 (lDisp aNil)) (gSeq (gFor (iRng1 (aCons (e2 dIx (eLst (aCons (eC (.int 9)) (aCons (eC (.int 27)) (aCons (eC (.int 81)) (aCons (eC (.int 243)) aNil))))) (e2 dSub (eVar 0) (eC (.int 2)))) aNil)) (gN 2) g__law_pans_L1) (gFrz 1 (gRetL (eSorted (aCons (eVar 1) aNil))))))
def F__law_pans : List D → R (List D) := runL 7 g__law_pans
theorem sc__law_pans : FnScope ["_law_many", "_law_found", "_law_number", "_law_sides", "_law_left", "_law_right", "_law_one"] ["_law_many"] (defScope (top 30)) := ⟨rfl, rfl, rfl, by decide +kernel, rfl, by decide +kernel, by decide +kernel⟩
theorem df__law_pans (T : TF K mg) : DfL P w K mg base (cA K) "_law_pans" 1 1 F__law_pans := by
  obtain ⟨fd, FD⟩ := T.says.def_ 18 (d := dF "_law_pans" 30) rfl
  refine dfl_mk (B := noObj) (k := 0) (g := g__law_pans) FD sc__law_pans (FD.bindsN fun _ _ _ _ _ _ us hl => match us, hl with | [_], _ => rfl) (T.glo 34) fun cdv A outer s H E G => ?_
  exact (dss_cons (ds_own G.toGood.nd rfl (.inl rfl) (dl_lst da_nil)) (dss_cons (ds_for G (di_range1 (T.free 9) (da_cons (de_ix G.toGood.K (de_lst (da_cons de_int (da_cons de_int (da_cons de_int (da_cons de_int da_nil))))) (de_sub (de_var (i := 0) rfl (.inl rfl)) de_int)) da_nil)) (dg_name (i := 2) G.toGood.nd rfl (.inr rfl)) (dss_cons (ds_set G.toGood.nd rfl (.inr rfl) (de_l (dl_lc (own := [("_law_one", 6)]) G.toGood (di_range1 (T.free 9) (da_cons (de_var (i := 0) rfl (.inl rfl)) da_nil)) (blkOk_by (by kernel_rfl)) (fun _ _ _ _ _ => (dg_name (i := 6) G.toGood.nd rfl (.inl rfl))) (by decide) (fun _ _ _ _ _ G1 => dts_nil) (fun _ _ _ _ _ G1 => (de_mod (de_div (de_var (i := 2) rfl (.inr (.inl rfl))) (de_ix G1.K (de_lst (da_cons de_int (da_cons de_int (da_cons de_int (da_cons de_int (da_cons de_int da_nil)))))) (de_var (i := 6) rfl (.inl rfl)))) de_int))))) (dss_cons (ds_set G.toGood.nd rfl (.inl rfl) (de_tuple G.toGood.K (T.free 14) (da_cons (de_l (dl_lc (own := [("_law_one", 6)]) G.toGood (di_range1 (T.free 9) (da_cons (de_var (i := 0) rfl (.inl rfl)) da_nil)) (blkOk_by (by kernel_rfl)) (fun _ _ _ _ _ => (dg_name (i := 6) G.toGood.nd rfl (.inl rfl))) (by decide) (fun _ _ _ _ _ G1 => (dts_one (dt_cmp (cEq G1.room) G1.K (de_ix G1.K (de_var (i := 3) rfl (.inr (.inl rfl))) (de_var (i := 6) rfl (.inl rfl))) de_int (nomark _)))) (fun _ _ _ _ _ G1 => (de_var (i := 6) rfl (.inl rfl))))) da_nil))) (dss_cons (ds_set G.toGood.nd rfl (.inl rfl) (de_tuple G.toGood.K (T.free 14) (da_cons (de_l (dl_lc (own := [("_law_one", 6)]) G.toGood (di_range1 (T.free 9) (da_cons (de_var (i := 0) rfl (.inl rfl)) da_nil)) (blkOk_by (by kernel_rfl)) (fun _ _ _ _ _ => (dg_name (i := 6) G.toGood.nd rfl (.inl rfl))) (by decide) (fun _ _ _ _ _ G1 => (dts_one (dt_cmp (cEq G1.room) G1.K (de_ix G1.K (de_var (i := 3) rfl (.inr (.inl rfl))) (de_var (i := 6) rfl (.inl rfl))) de_int (nomark _)))) (fun _ _ _ _ _ G1 => (de_var (i := 6) rfl (.inl rfl))))) da_nil))) (dss_one (ds_if (dt_w (dw_and (dt_cmp (cEq G.toGood.room) G.toGood.K (de_len G.toGood.K (T.free 5) (da_cons (de_var (i := 4) rfl (.inl rfl)) da_nil)) (de_len G.toGood.K (T.free 5) (da_cons (de_var (i := 5) rfl (.inl rfl)) da_nil)) (nomark _)) (dw_and (dt_cmp (cNe G.toGood.room) G.toGood.K (de_var (i := 4) rfl (.inl rfl)) (de_tup da_nil) (nomark _)) (dw_and1 (dt_cmp cLt G.toGood.K (de_ix G.toGood.K (de_var (i := 4) rfl (.inl rfl)) de_int) (de_ix G.toGood.K (de_var (i := 5) rfl (.inl rfl)) de_int) (nomark _)))))) (dss_one (ds_app (i := 1) rfl (.inl rfl) (de_tup (da_cons (de_var (i := 4) rfl (.inl rfl)) (da_cons (de_var (i := 5) rfl (.inl rfl)) da_nil))))) dss_nil)))))) (dss_frz 1 (dss_one (ds_retL (dl_sorted G.toGood (T.free 11) (da_cons (de_var (i := 1) rfl (.inl rfl)) da_nil)))))))
/-! ### _law_pool -/
def g__law_pool_L1 : GS noObj := (gSeq (gOwn 5 (lRep (eLst (aCons (eC (.int 0)) aNil)) (eVar 0))) (gSeq (gPut 5 (eVar 3) (e2 dIx (eLst (aCons (eC (.int 1)) (aCons (e1 dNeg (eC (.int 1))) (aCons (e2 dIx (eLst (aCons (eC (.int 1)) (aCons (e1 dNeg (eC (.int 1))) aNil))) (e2 dMod (eVar 4) (eC (.int 2)))) (aCons (eC (.int 1)) (aCons (eC (.int 1)) aNil)))))) (eVar 1))) (gSeq (gIf (tAndD (tV (e2 dGt (eVar 1) (eC (.int 2)))) (tV (e2 dNe (eVar 3) (eVar 4)))) (gPut 5 (eVar 4) (e2 dIx (eLst (aCons (eC (.int 1)) (aCons (e1 dNeg (eC (.int 1))) aNil))) (e2 dSub (eVar 1) (eC (.int 3))))) gNil) (gFrz 5 (gIf (tBor 2 (tAndD (tV (e2 dNotIn (eA dTuple (aCons (eVar 5) aNil)) (eVar 2))) (tOrD (tV (e2 dLt (eVar 1) (eC (.int 3)))) (tV (e2 dNe (eVar 3) (eVar 4)))))) (gApp 2 (eA dTuple (aCons (eVar 5) aNil))) gNil)))))
def g__law_pool_L2 : GS noObj := (gFor (iRng1 (aCons (eVar 0) aNil)) (gN 4) g__law_pool_L1)
def g__law_pool : GS noObj := (gSeq (gOwn 2 (lDisp aNil)) (gSeq (gFor (iRng1 (aCons (eVar 0) aNil)) (gN 3) g__law_pool_L2) (gSeq (gIf (tV (e2 dEq (eVar 1) (eC (.int 2)))) (gApp 2 (e2 dMul (eTup (aCons (eC (.int 0)) aNil)) (eVar 0))) gNil) (gRetO 2))))
def F__law_pool : List D → R (List D) := runL 6 g__law_pool
theorem sc__law_pool : FnScope ["_law_many", "_law_kind", "_law_found", "_law_one", "_law_other", "_law_case"] ["_law_many", "_law_kind"] (defScope (top 31)) := ⟨rfl, rfl, rfl, by decide +kernel, rfl, by decide +kernel, by decide +kernel⟩
theorem df__law_pool (T : TF K mg) : DfL P w K mg base (cA K) "_law_pool" 1 2 F__law_pool := by
  obtain ⟨fd, FD⟩ := T.says.def_ 19 (d := dF "_law_pool" 31) rfl
  refine dfl_mk (B := noObj) (k := 0) (g := g__law_pool) FD sc__law_pool (FD.bindsN fun _ _ _ _ _ _ us hl => match us, hl with | [_, _], _ => rfl) (T.glo 35) fun cdv A outer s H E G => ?_
  exact (dss_cons (ds_own G.toGood.nd rfl (.inl rfl) (dl_lst da_nil)) (dss_cons (ds_for G (di_range1 (T.free 9) (da_cons (de_var (i := 0) rfl (.inl rfl)) da_nil)) (dg_name (i := 3) G.toGood.nd rfl (.inl rfl)) (dss_one (ds_for G (di_range1 (T.free 9) (da_cons (de_var (i := 0) rfl (.inl rfl)) da_nil)) (dg_name (i := 4) G.toGood.nd rfl (.inl rfl)) (dss_cons (ds_own G.toGood.nd rfl (.inl rfl) (dl_rep (de_lst (da_cons de_int da_nil)) (de_var (i := 0) rfl (.inl rfl)))) (dss_cons (ds_put (i := 5) rfl (.inl rfl) (de_var (i := 3) rfl (.inl rfl)) (de_ix G.toGood.K (de_lst (da_cons de_int (da_cons (de_neg de_int) (da_cons (de_ix G.toGood.K (de_lst (da_cons de_int (da_cons (de_neg de_int) da_nil))) (de_mod (de_var (i := 4) rfl (.inl rfl)) de_int)) (da_cons de_int (da_cons de_int da_nil)))))) (de_var (i := 1) rfl (.inl rfl)))) (dss_cons (ds_if (dt_w (dw_and (dt_cmp cGt G.toGood.K (de_var (i := 1) rfl (.inl rfl)) de_int (nomark _)) (dw_and1 (dt_cmp (cNe G.toGood.room) G.toGood.K (de_var (i := 3) rfl (.inl rfl)) (de_var (i := 4) rfl (.inl rfl)) (nomark _))))) (dss_one (ds_put (i := 5) rfl (.inl rfl) (de_var (i := 4) rfl (.inl rfl)) (de_ix G.toGood.K (de_lst (da_cons de_int (da_cons (de_neg de_int) da_nil))) (de_sub (de_var (i := 1) rfl (.inl rfl)) de_int)))) dss_nil) (dss_frz 5 (dss_one (ds_if (dt_bor 2 (dt_w (dw_and (dt_cmp (cNotIn G.toGood.room) G.toGood.K (de_tuple G.toGood.K (T.free 14) (da_cons (de_var (i := 5) rfl (.inl rfl)) da_nil)) (de_var (i := 2) rfl (.inl rfl)) rfl) (dw_and1 (dt_w (dw_or (dt_cmp cLt G.toGood.K (de_var (i := 1) rfl (.inl rfl)) de_int (nomark _)) (dw_or1 (dt_cmp (cNe G.toGood.room) G.toGood.K (de_var (i := 3) rfl (.inl rfl)) (de_var (i := 4) rfl (.inl rfl)) (nomark _))))))))) (dss_one (ds_app (i := 2) rfl (.inl rfl) (de_tuple G.toGood.K (T.free 14) (da_cons (de_var (i := 5) rfl (.inl rfl)) da_nil)))) dss_nil))))))))) (dss_cons (ds_if (dt_cmp (cEq G.toGood.room) G.toGood.K (de_var (i := 1) rfl (.inl rfl)) de_int (nomark _)) (dss_one (ds_app (i := 2) rfl (.inl rfl) (de_mul G.toGood.K (de_tup (da_cons de_int da_nil)) (de_var (i := 0) rfl (.inl rfl))))) dss_nil) (dss_one (ds_retO (i := 2) rfl (.inl rfl))))))
/-! ### _law_puzzle -/
def c__law_puzzle_1 : Env noObj → R (List D) := (lLc (iRng1 (aCons (eVar 4) aNil)) (gN 11) tYesD (e2 dSub (e2 dMod (e2 dDiv (eVar 8) (e2 dIx (eLst (aCons (eC (.int 1)) (aCons (eC (.int 3)) (aCons (eC (.int 9)) (aCons (eC (.int 27)) (aCons (eC (.int 81)) aNil)))))) (eVar 11))) (eC (.int 3))) (eC (.int 1))) [11])
def g__law_puzzle_L1 : GS noObj := (gSeq (gSet 8 (eCall 2 F__law_mixed (aCons (eVar 0) (aCons (e2 dAdd (e2 dAdd (eVar 1) (eC (.int 1))) (eVar 7)) aNil)))) (gApp 6 (eA dTuple (aCons (eL c__law_puzzle_1) aNil))))
def g__law_puzzle_L2 : GS noObj := (gSeq (gSet 10 (e2 dIx (eVar 6) (e2 dMod (e2 dAdd (e2 dDiv (eVar 8) (eC (.int 8))) (e2 dMul (eVar 7) (e2 dAdd (eC (.int 1)) (e2 dMod (e2 dDiv (eVar 8) (eC (.int 64))) (eC (.int 2)))))) (eA dLen (aCons (eVar 6) aNil))))) (gIf (tBor 9 (tV (e2 dNotIn (eVar 10) (eVar 9)))) (gApp 9 (eVar 10)) gNil))
def g__law_puzzle : GS noObj := (gSeq (gSet 3 (eCall 2 F__law_mixed (aCons (eVar 0) (aCons (eVar 1) aNil)))) (gSeq (gSet 4 (eA dMin (aCons (eVar 2) (aCons (e2 dIx (eLst (aCons (eC (.int 2)) (aCons (eC (.int 3)) (aCons (eC (.int 3)) (aCons (eC (.int 4)) (aCons (eC (.int 4)) (aCons (eC (.int 5)) aNil))))))) (e2 dMod (eVar 3) (eC (.int 6)))) aNil)))) (gSeq (gSet 5 (e2 dIx (eLst (aCons (eC (.int 9)) (aCons (eC (.int 12)) (aCons (eC (.int 8)) (aCons (eC (.int 5)) aNil))))) (e2 dSub (eVar 4) (eC (.int 2))))) (gSeq (gOwn 6 (lDisp aNil)) (gSeq (gFor (iRng1 (aCons (eC (.int 12)) aNil)) (gN 7) g__law_puzzle_L1) (gFrz 6 (gSeq (gIf (tV (e2 dGt (e2 dMod (e2 dDiv (eVar 3) (eC (.int 6))) (eC (.int 6))) (eC (.int 0)))) (gSet 6 (eCall 2 (listR F__law_pool) (aCons (eVar 4) (aCons (e2 dSub (e2 dMod (e2 dDiv (eVar 3) (eC (.int 6))) (eC (.int 6))) (eC (.int 1))) aNil)))) gNil) (gSeq (gOwn 9 (lDisp aNil)) (gSeq (gSet 8 (e2 dDiv (eVar 3) (eC (.int 36)))) (gSeq (gIf (tAndD (tV (e2 dGt (eVar 4) (eC (.int 3)))) (tAndD (tV (e2 dEq (e2 dMod (e2 dDiv (eVar 8) (eC (.int 256))) (eC (.int 4))) (eC (.int 1)))) (tV (e2 dGt (e2 dMod (e2 dDiv (eVar 3) (eC (.int 6))) (eC (.int 6))) (eC (.int 0)))))) (gSet 5 (eC (.int 12))) gNil) (gSeq (gFor (iRng1 (aCons (e2 dIx (eLst (aCons (e2 dAdd (eC (.int 1)) (e2 dMod (eVar 8) (eVar 5))) (aCons (eVar 5) aNil))) (eA dInt (aCons (eAnd (e2 dEq (eVar 5) (eC (.int 12))) (e2 dGt (eVar 4) (eC (.int 3)))) aNil))) aNil)) (gN 7) g__law_puzzle_L2) (gFrz 9 (gRet (eTup (aCons (eVar 4) (aCons (eVar 9) aNil))))))))))))))))
def F__law_puzzle : List D → R D := runF 12 g__law_puzzle
theorem sc__law_puzzle : FnScope ["_law_script", "_law_at", "_law_greatest", "_law_first", "_law_many", "_law_most", "_law_pool_here", "_law_k", "_law_number", "_law_found", "_law_case", "_law_one"] ["_law_script", "_law_at", "_law_greatest"] (defScope (top 32)) := ⟨rfl, rfl, rfl, by decide +kernel, rfl, by decide +kernel, by decide +kernel⟩
theorem df__law_puzzle (T : TF K mg) : Df P w K mg base (cA K) "_law_puzzle" 3 3 F__law_puzzle := by
  obtain ⟨fd, FD⟩ := T.says.def_ 20 (d := dF "_law_puzzle" 32) rfl
  refine df_mk (B := noObj) (k := 2) (g := g__law_puzzle) FD sc__law_puzzle (FD.bindsN fun _ _ _ _ _ _ us hl => match us, hl with | [_, _, _], _ => rfl) (T.glo 36) fun cdv A outer s H E G => ?_
  exact (dss_cons (ds_set G.toGood.nd rfl (.inl rfl) (de_call G.toGood (df__law_mixed T) (by decide) (da_cons (de_var (i := 0) rfl (.inl rfl)) (da_cons (de_var (i := 1) rfl (.inl rfl)) da_nil)))) (dss_cons (ds_set G.toGood.nd rfl (.inl rfl) (de_min G.toGood.K G.toGood.calm (T.free 8) (da_cons (de_var (i := 2) rfl (.inl rfl)) (da_cons (de_ix G.toGood.K (de_lst (da_cons de_int (da_cons de_int (da_cons de_int (da_cons de_int (da_cons de_int (da_cons de_int da_nil))))))) (de_mod (de_var (i := 3) rfl (.inl rfl)) de_int)) da_nil)))) (dss_cons (ds_set G.toGood.nd rfl (.inl rfl) (de_ix G.toGood.K (de_lst (da_cons de_int (da_cons de_int (da_cons de_int (da_cons de_int da_nil))))) (de_sub (de_var (i := 4) rfl (.inl rfl)) de_int))) (dss_cons (ds_own G.toGood.nd rfl (.inl rfl) (dl_lst da_nil)) (dss_cons (ds_for G (di_range1 (T.free 9) (da_cons de_int da_nil)) (dg_name (i := 7) G.toGood.nd rfl (.inl rfl)) (dss_cons (ds_set G.toGood.nd rfl (.inr rfl) (de_call G.toGood (df__law_mixed T) (by decide) (da_cons (de_var (i := 0) rfl (.inl rfl)) (da_cons (de_add G.toGood.K (de_add G.toGood.K (de_var (i := 1) rfl (.inl rfl)) de_int) (de_var (i := 7) rfl (.inl rfl))) da_nil)))) (dss_one (ds_app (i := 6) rfl (.inl rfl) (de_tuple G.toGood.K (T.free 14) (da_cons (de_l (dl_lc (own := [("_law_one", 11)]) G.toGood (di_range1 (T.free 9) (da_cons (de_var (i := 4) rfl (.inl rfl)) da_nil)) (blkOk_by (by kernel_rfl)) (fun _ _ _ _ _ => (dg_name (i := 11) G.toGood.nd rfl (.inl rfl))) (by decide) (fun _ _ _ _ _ G1 => dts_nil) (fun _ _ _ _ _ G1 => (de_sub (de_mod (de_div (de_var (i := 8) rfl (.inr (.inl rfl))) (de_ix G1.K (de_lst (da_cons de_int (da_cons de_int (da_cons de_int (da_cons de_int (da_cons de_int da_nil)))))) (de_var (i := 11) rfl (.inl rfl)))) de_int) de_int)))) da_nil)))))) (dss_frz 6 (dss_cons (ds_if (dt_cmp cGt G.toGood.K (de_mod (de_div (de_var (i := 3) rfl (.inl rfl)) de_int) de_int) de_int (nomark _)) (dss_one (ds_set G.toGood.nd rfl (.inl rfl) (de_call G.toGood (DfS.toD (df__law_pool T)) (by decide) (da_cons (de_var (i := 4) rfl (.inl rfl)) (da_cons (de_sub (de_mod (de_div (de_var (i := 3) rfl (.inl rfl)) de_int) de_int) de_int) da_nil))))) dss_nil) (dss_cons (ds_own G.toGood.nd rfl (.inl rfl) (dl_lst da_nil)) (dss_cons (ds_set G.toGood.nd rfl (.inr rfl) (de_div (de_var (i := 3) rfl (.inl rfl)) de_int)) (dss_cons (ds_if (dt_w (dw_and (dt_cmp cGt G.toGood.K (de_var (i := 4) rfl (.inl rfl)) de_int (nomark _)) (dw_and (dt_cmp (cEq G.toGood.room) G.toGood.K (de_mod (de_div (de_var (i := 8) rfl (.inr (.inl rfl))) de_int) de_int) de_int (nomark _)) (dw_and1 (dt_cmp cGt G.toGood.K (de_mod (de_div (de_var (i := 3) rfl (.inl rfl)) de_int) de_int) de_int (nomark _)))))) (dss_one (ds_set G.toGood.nd rfl (.inl rfl) de_int)) dss_nil) (dss_cons (ds_for G (di_range1 (T.free 9) (da_cons (de_ix G.toGood.K (de_lst (da_cons (de_add G.toGood.K de_int (de_mod (de_var (i := 8) rfl (.inr (.inl rfl))) (de_var (i := 5) rfl (.inl rfl)))) (da_cons (de_var (i := 5) rfl (.inl rfl)) da_nil))) (de_intc (T.free 3) (da_cons (de_and (de_cmp (cEq G.toGood.room) G.toGood.K (de_var (i := 5) rfl (.inl rfl)) de_int (nomark _)) (de_one (de_cmp cGt G.toGood.K (de_var (i := 4) rfl (.inl rfl)) de_int (nomark _)))) da_nil))) da_nil)) (dg_name (i := 7) G.toGood.nd rfl (.inl rfl)) (dss_cons (ds_set G.toGood.nd rfl (.inl rfl) (de_ix G.toGood.K (de_var (i := 6) rfl (.inl rfl)) (de_mod (de_add G.toGood.K (de_div (de_var (i := 8) rfl (.inr (.inl rfl))) de_int) (de_mul G.toGood.K (de_var (i := 7) rfl (.inl rfl)) (de_add G.toGood.K de_int (de_mod (de_div (de_var (i := 8) rfl (.inr (.inl rfl))) de_int) de_int)))) (de_len G.toGood.K (T.free 5) (da_cons (de_var (i := 6) rfl (.inl rfl)) da_nil))))) (dss_one (ds_if (dt_bor 9 (dt_cmp (cNotIn G.toGood.room) G.toGood.K (de_var (i := 10) rfl (.inl rfl)) (de_var (i := 9) rfl (.inl rfl)) rfl)) (dss_one (ds_app (i := 9) rfl (.inl rfl) (de_var (i := 10) rfl (.inl rfl)))) dss_nil)))) (dss_frz 9 (dss_one (ds_ret (de_tup (da_cons (de_var (i := 4) rfl (.inl rfl)) (da_cons (de_var (i := 9) rfl (.inl rfl)) da_nil)))))))))))))))))
/-! ### _law_alike -/
def c__law_alike_1 : Env noObj → R (List D) := (lLc (iSeq (eVar 0)) (gN 3) (tV (e2 dNe (eCall 2 F__law_came (aCons (eVar 3) (aCons (eVar 1) aNil))) (eCall 2 F__law_came (aCons (eVar 3) (aCons (eVar 2) aNil))))) (eVar 3) [3])
def g__law_alike : GS noObj := (gRet (e2 dEq (eL c__law_alike_1) (eLst aNil)))
def F__law_alike : List D → R D := runF 4 g__law_alike
theorem sc__law_alike : FnScope ["_law_pans_here", "_law_one", "_law_other", "_law_weighing"] ["_law_pans_here", "_law_one", "_law_other"] (defScope (top 33)) := ⟨rfl, rfl, rfl, by decide +kernel, rfl, by decide +kernel, by decide +kernel⟩
theorem df__law_alike (T : TF K mg) : Df P w K mg base (cA K) "_law_alike" 2 3 F__law_alike := by
  obtain ⟨fd, FD⟩ := T.says.def_ 21 (d := dF "_law_alike" 33) rfl
  refine df_mk (B := noObj) (k := 1) (g := g__law_alike) FD sc__law_alike (FD.bindsN fun _ _ _ _ _ _ us hl => match us, hl with | [_, _, _], _ => rfl) (T.glo 37) fun cdv A outer s H E G => ?_
  exact (dss_one (ds_ret (de_cmp (cEq G.toGood.room) G.toGood.K (de_l (dl_lc (own := [("_law_weighing", 3)]) G.toGood (di_seq G.toGood.K (de_var (i := 0) rfl (.inl rfl))) (blkOk_by (by kernel_rfl)) (fun _ _ _ _ _ => (dg_name (i := 3) G.toGood.nd rfl (.inl rfl))) (by decide) (fun _ _ _ _ _ G1 => (dts_one (dt_cmp (cNe G1.room) G1.K (de_call G1 (df__law_came T) (by decide) (da_cons (de_var (i := 3) rfl (.inl rfl)) (da_cons (de_var (i := 1) rfl (.inr (.inl rfl))) da_nil))) (de_call G1 (df__law_came T) (by decide) (da_cons (de_var (i := 3) rfl (.inl rfl)) (da_cons (de_var (i := 2) rfl (.inr (.inl rfl))) da_nil))) (nomark _)))) (fun _ _ _ _ _ G1 => (de_var (i := 3) rfl (.inl rfl))))) (de_lst da_nil) (nomark _))))
/-! ### _law_is_pan -/
def c__law_is_pan_1 : Env noObj → R (List D) := (lLc (iSeq (eVar 1)) (gN 2) tYesD (eAnd (eCall 1 F__law_whole (aCons (eVar 2) aNil)) (eChain dLe dLt (eC (.int 0)) (eVar 2) (eVar 0))) [2])
def g__law_is_pan : GS noObj := (gSeq (gIf (tOrD (tNotD (tV (e1 (dIsi "tuple") (eVar 1)))) (tV (e2 dEq (eVar 1) (eTup aNil)))) (gRet (eC (.bool false))) gNil) (gSeq (gIf (tNotD (tV (eA dAll (aCons (eL c__law_is_pan_1) aNil)))) (gRet (eC (.bool false))) gNil) (gRet (e2 dEq (eA dList (aCons (eVar 1) aNil)) (eL (eSortSet (eVar 1)))))))
def F__law_is_pan : List D → R D := runF 3 g__law_is_pan
theorem sc__law_is_pan : FnScope ["_law_many", "_law_thing_here", "_law_one"] ["_law_many", "_law_thing_here"] (defScope (top 34)) := ⟨rfl, rfl, rfl, by decide +kernel, rfl, by decide +kernel, by decide +kernel⟩
theorem df__law_is_pan (T : TF K mg) : Df P w K mg base (cA K) "_law_is_pan" 2 2 F__law_is_pan := by
  obtain ⟨fd, FD⟩ := T.says.def_ 22 (d := dF "_law_is_pan" 34) rfl
  refine df_mk (B := noObj) (k := 1) (g := g__law_is_pan) FD sc__law_is_pan (FD.bindsN fun _ _ _ _ _ _ us hl => match us, hl with | [_, _], _ => rfl) (T.glo 38) fun cdv A outer s H E G => ?_
  exact (dss_cons (ds_if (dt_w (dw_or (dt_not (dt_val (de_isi G.toGood.K (T.free 4) (T.free 14) boot_tupleT (de_var (i := 1) rfl (.inl rfl))))) (dw_or1 (dt_cmp (cEq G.toGood.room) G.toGood.K (de_var (i := 1) rfl (.inl rfl)) (de_tup da_nil) (nomark _))))) (dss_one (ds_ret de_bl)) dss_nil) (dss_cons (ds_if (dt_not (dt_val (de_all G.toGood.K G.toGood.calm (T.free 0) (da_cons (de_l (dl_lc (own := [("_law_one", 2)]) G.toGood (di_seq G.toGood.K (de_var (i := 1) rfl (.inl rfl))) (blkOk_by (by kernel_rfl)) (fun _ _ _ _ _ => (dg_name (i := 2) G.toGood.nd rfl (.inl rfl))) (by decide) (fun _ _ _ _ _ G1 => dts_nil) (fun _ _ _ _ _ G1 => (de_and (de_call G1 (df__law_whole T) (by decide) (da_cons (de_var (i := 2) rfl (.inl rfl)) da_nil)) (de_one (de_chain cLe cLt G1.K de_int (de_var (i := 2) rfl (.inl rfl)) (de_var (i := 0) rfl (.inr (.inl rfl))))))))) da_nil)))) (dss_one (ds_ret de_bl)) dss_nil) (dss_one (ds_ret (de_cmp (cEq G.toGood.room) G.toGood.K (de_list G.toGood.K (T.free 6) (da_cons (de_var (i := 1) rfl (.inl rfl)) da_nil)) (de_l (dl_sortSet G.toGood (T.free 11) (T.free 10) (de_var (i := 1) rfl (.inl rfl)))) (nomark _))))))
/-! ### _law_is_weighing -/
def g__law_is_weighing : GS noObj := (gSeq (gIf (tOrD (tNotD (tV (e1 (dIsi "tuple") (eVar 1)))) (tOrD (tV (e2 dNe (eA dLen (aCons (eVar 1) aNil)) (eC (.int 2)))) (tNotD (tV (eCall 2 F__law_is_pan (aCons (eVar 0) (aCons (e2 dIx (eVar 1) (eC (.int 0))) aNil))))))) (gRet (eC (.bool false))) gNil) (gSeq (gIf (tOrD (tNotD (tV (eCall 2 F__law_is_pan (aCons (eVar 0) (aCons (e2 dIx (eVar 1) (eC (.int 1))) aNil))))) (tV (e2 dNe (eA dLen (aCons (e2 dIx (eVar 1) (eC (.int 0))) aNil)) (eA dLen (aCons (e2 dIx (eVar 1) (eC (.int 1))) aNil))))) (gRet (eC (.bool false))) gNil) (gRet (e2 dEq (eLenSet (e2 dAdd (e2 dIx (eVar 1) (eC (.int 0))) (e2 dIx (eVar 1) (eC (.int 1))))) (e2 dMul (eC (.int 2)) (eA dLen (aCons (e2 dIx (eVar 1) (eC (.int 0))) aNil)))))))
def F__law_is_weighing : List D → R D := runF 2 g__law_is_weighing
theorem sc__law_is_weighing : FnScope ["_law_many", "_law_thing_here"] ["_law_many", "_law_thing_here"] (defScope (top 35)) := ⟨rfl, rfl, rfl, by decide +kernel, rfl, by decide +kernel, by decide +kernel⟩
theorem df__law_is_weighing (T : TF K mg) : Df P w K mg base (cA K) "_law_is_weighing" 3 2 F__law_is_weighing := by
  obtain ⟨fd, FD⟩ := T.says.def_ 23 (d := dF "_law_is_weighing" 35) rfl
  refine df_mk (B := noObj) (k := 2) (g := g__law_is_weighing) FD sc__law_is_weighing (FD.bindsN fun _ _ _ _ _ _ us hl => match us, hl with | [_, _], _ => rfl) (T.glo 39) fun cdv A outer s H E G => ?_
  exact (dss_cons (ds_if (dt_w (dw_or (dt_not (dt_val (de_isi G.toGood.K (T.free 4) (T.free 14) boot_tupleT (de_var (i := 1) rfl (.inl rfl))))) (dw_or (dt_cmp (cNe G.toGood.room) G.toGood.K (de_len G.toGood.K (T.free 5) (da_cons (de_var (i := 1) rfl (.inl rfl)) da_nil)) de_int (nomark _)) (dw_or1 (dt_not (dt_val (de_call G.toGood (df__law_is_pan T) (by decide) (da_cons (de_var (i := 0) rfl (.inl rfl)) (da_cons (de_ix G.toGood.K (de_var (i := 1) rfl (.inl rfl)) de_int) da_nil))))))))) (dss_one (ds_ret de_bl)) dss_nil) (dss_cons (ds_if (dt_w (dw_or (dt_not (dt_val (de_call G.toGood (df__law_is_pan T) (by decide) (da_cons (de_var (i := 0) rfl (.inl rfl)) (da_cons (de_ix G.toGood.K (de_var (i := 1) rfl (.inl rfl)) de_int) da_nil))))) (dw_or1 (dt_cmp (cNe G.toGood.room) G.toGood.K (de_len G.toGood.K (T.free 5) (da_cons (de_ix G.toGood.K (de_var (i := 1) rfl (.inl rfl)) de_int) da_nil)) (de_len G.toGood.K (T.free 5) (da_cons (de_ix G.toGood.K (de_var (i := 1) rfl (.inl rfl)) de_int) da_nil)) (nomark _))))) (dss_one (ds_ret de_bl)) dss_nil) (dss_one (ds_ret (de_cmp (cEq G.toGood.room) G.toGood.K (de_lenSet G.toGood (T.free 5) (T.free 10) (de_add G.toGood.K (de_ix G.toGood.K (de_var (i := 1) rfl (.inl rfl)) de_int) (de_ix G.toGood.K (de_var (i := 1) rfl (.inl rfl)) de_int))) (de_mul G.toGood.K de_int (de_len G.toGood.K (T.free 5) (da_cons (de_ix G.toGood.K (de_var (i := 1) rfl (.inl rfl)) de_int) da_nil))) (nomark _))))))
/-! ### _law_is_case_told -/
def c__law_is_case_told_1 : Env noObj → R (List D) := (lLc (iSeq (eVar 0)) (gN 2) tYesD (eCall 1 F__law_whole (aCons (eVar 2) aNil)) [2])
def g__law_is_case_told : GS noObj := (gRet (eAnd (e1 (dIsi "tuple") (eVar 0)) (eAnd (e2 dEq (eVar 0) (eVar 1)) (eA dAll (aCons (eL c__law_is_case_told_1) aNil)))))
def F__law_is_case_told : List D → R D := runF 3 g__law_is_case_told
theorem sc__law_is_case_told : FnScope ["_law_thing_here", "_law_case", "_law_one"] ["_law_thing_here", "_law_case"] (defScope (top 36)) := ⟨rfl, rfl, rfl, by decide +kernel, rfl, by decide +kernel, by decide +kernel⟩
theorem df__law_is_case_told (T : TF K mg) : Df P w K mg base (cA K) "_law_is_case_told" 2 2 F__law_is_case_told := by
  obtain ⟨fd, FD⟩ := T.says.def_ 24 (d := dF "_law_is_case_told" 36) rfl
  refine df_mk (B := noObj) (k := 1) (g := g__law_is_case_told) FD sc__law_is_case_told (FD.bindsN fun _ _ _ _ _ _ us hl => match us, hl with | [_, _], _ => rfl) (T.glo 40) fun cdv A outer s H E G => ?_
  exact (dss_one (ds_ret (de_and (de_isi G.toGood.K (T.free 4) (T.free 14) boot_tupleT (de_var (i := 0) rfl (.inl rfl))) (de_and (de_cmp (cEq G.toGood.room) G.toGood.K (de_var (i := 0) rfl (.inl rfl)) (de_var (i := 1) rfl (.inl rfl)) (nomark _)) (de_one (de_all G.toGood.K G.toGood.calm (T.free 0) (da_cons (de_l (dl_lc (own := [("_law_one", 2)]) G.toGood (di_seq G.toGood.K (de_var (i := 0) rfl (.inl rfl))) (blkOk_by (by kernel_rfl)) (fun _ _ _ _ _ => (dg_name (i := 2) G.toGood.nd rfl (.inl rfl))) (by decide) (fun _ _ _ _ _ G1 => dts_nil) (fun _ _ _ _ _ G1 => (de_call G1 (df__law_whole T) (by decide) (da_cons (de_var (i := 2) rfl (.inl rfl)) da_nil))))) da_nil)))))))
/-! ### _law_is_plan -/
def c__law_is_plan_1 (R__law_is_plan : List D → R D) : Env noObj → R (List D) := (lLc (iSeq (eVar 1)) (gN 6) (tV (e2 dEq (eCall 2 F__law_came (aCons (e2 dIx (eVar 2) (eC (.int 1))) (aCons (eVar 6) aNil))) (e2 dSub (eVar 3) (eC (.int 1))))) (eVar 6) [6])
def g__law_is_plan_L1 (R__law_is_plan : List D → R D) : GS noObj := (gSeq (gSet 4 (eL (c__law_is_plan_1 R__law_is_plan))) (gSeq (gSet 5 (e2 dIx (e2 dIx (eVar 2) (eC (.int 2))) (eVar 3))) (gIf (tOrD (tAndD (tV (e2 dEq (eVar 4) (eLst aNil))) (tV (e2 dIsNot (eVar 5) (eC .none)))) (tAndD (tV (e2 dNe (eVar 4) (eLst aNil))) (tNotD (tV (eCall 3 R__law_is_plan (aCons (eVar 0) (aCons (eVar 4) (aCons (eVar 5) aNil)))))))) (gRet (eC (.bool false))) gNil)))
def g__law_is_plan (R__law_is_plan : List D → R D) : GS noObj := (gSeq (gIf (tOrD (tNotD (tV (e1 (dIsi "tuple") (eVar 2)))) (tOrD (tV (e2 dLt (eA dLen (aCons (eVar 2) aNil)) (eC (.int 2)))) (tNotD (tV (e1 (dIsi "str") (e2 dIx (eVar 2) (eC (.int 0)))))))) (gRet (eC (.bool false))) gNil) (gSeq (gIf (tV (e2 dEq (e2 dIx (eVar 2) (eC (.int 0))) (eC (.str (Str.ofString "told"))))) (gRet (eAnd (e2 dEq (eA dLen (aCons (eVar 2) aNil)) (eC (.int 2))) (eAnd (e2 dEq (eA dLen (aCons (eVar 1) aNil)) (eC (.int 1))) (eCall 2 F__law_is_case_told (aCons (e2 dIx (eVar 2) (eC (.int 1))) (aCons (e2 dIx (eVar 1) (eC (.int 0))) aNil)))))) gNil) (gSeq (gIf (tOrD (tV (e2 dNe (e2 dIx (eVar 2) (eC (.int 0))) (eC (.str (Str.ofString "weigh"))))) (tOrD (tV (e2 dNe (eA dLen (aCons (eVar 2) aNil)) (eC (.int 3)))) (tNotD (tV (eCall 2 F__law_is_weighing (aCons (eVar 0) (aCons (e2 dIx (eVar 2) (eC (.int 1))) aNil))))))) (gRet (eC (.bool false))) gNil) (gSeq (gIf (tOrD (tNotD (tV (e1 (dIsi "tuple") (e2 dIx (eVar 2) (eC (.int 2)))))) (tV (e2 dNe (eA dLen (aCons (e2 dIx (eVar 2) (eC (.int 2))) aNil)) (eC (.int 3))))) (gRet (eC (.bool false))) gNil) (gSeq (gFor (iRng1 (aCons (eC (.int 3)) aNil)) (gN 3) (g__law_is_plan_L1 R__law_is_plan)) (gRet (eC (.bool true))))))))
theorem sc__law_is_plan : FnScope ["_law_many", "_law_cases", "_law_thing_here", "_law_place", "_law_some", "_law_part", "_law_case"] ["_law_many", "_law_cases", "_law_thing_here"] (defScope (top 37)) := ⟨rfl, rfl, rfl, by decide +kernel, rfl, by decide +kernel, by decide +kernel⟩
def F__law_is_plan : Nat → List D → R D
  | 0 => fun _ => .stuck
  | n + 1 => runF 7 (g__law_is_plan (F__law_is_plan n))
theorem dfs__law_is_plan (T : TF K mg) : ∀ n, Df P w K mg base (cA K) "_law_is_plan" (3 + n) 3 (F__law_is_plan n)
  | 0 => by
    obtain ⟨fd, FD⟩ := T.says.def_ 25 (d := dF "_law_is_plan" 37) rfl
    exact df_stuck FD (FD.bindsN (ps := ["_law_many", "_law_cases", "_law_thing_here"]) fun _ _ _ _ _ _ us hl => match us, hl with | [_, _, _], _ => rfl) (T.glo 41)
  | n + 1 => by
    have IH__law_is_plan := dfs__law_is_plan T n
    obtain ⟨fd, FD⟩ := T.says.def_ 25 (d := dF "_law_is_plan" 37) rfl
    refine df_mk (B := noObj) (N := ["_law_many", "_law_cases", "_law_thing_here", "_law_place", "_law_some", "_law_part", "_law_case"]) (ps := ["_law_many", "_law_cases", "_law_thing_here"]) (k := 3 + n) (g := g__law_is_plan (F__law_is_plan n)) FD sc__law_is_plan (FD.bindsN (ps := ["_law_many", "_law_cases", "_law_thing_here"]) fun _ _ _ _ _ _ us hl => match us, hl with | [_, _, _], _ => rfl) (T.glo 41) fun cdv A outer s H E G => ?_
    exact (dss_cons (ds_if (dt_w (dw_or (dt_not (dt_val (de_isi G.toGood.K (T.free 4) (T.free 14) boot_tupleT (de_var (i := 2) rfl (.inr (.inl rfl)))))) (dw_or (dt_cmp cLt G.toGood.K (de_len G.toGood.K (T.free 5) (da_cons (de_var (i := 2) rfl (.inr (.inl rfl))) da_nil)) de_int (nomark _)) (dw_or1 (dt_not (dt_val (de_isi G.toGood.K (T.free 4) (T.free 12) boot_strT (de_ix G.toGood.K (de_var (i := 2) rfl (.inr (.inl rfl))) de_int)))))))) (dss_one (ds_ret de_bl)) dss_nil) (dss_cons (ds_if (dt_cmp (cEq G.toGood.room) G.toGood.K (de_ix G.toGood.K (de_var (i := 2) rfl (.inr (.inl rfl))) de_int) de_str (nomark _)) (dss_one (ds_ret (de_and (de_cmp (cEq G.toGood.room) G.toGood.K (de_len G.toGood.K (T.free 5) (da_cons (de_var (i := 2) rfl (.inr (.inl rfl))) da_nil)) de_int (nomark _)) (de_and (de_cmp (cEq G.toGood.room) G.toGood.K (de_len G.toGood.K (T.free 5) (da_cons (de_var (i := 1) rfl (.inl rfl)) da_nil)) de_int (nomark _)) (de_one (de_call G.toGood (df__law_is_case_told T) (by omega) (da_cons (de_ix G.toGood.K (de_var (i := 2) rfl (.inr (.inl rfl))) de_int) (da_cons (de_ix G.toGood.K (de_var (i := 1) rfl (.inl rfl)) de_int) da_nil)))))))) dss_nil) (dss_cons (ds_if (dt_w (dw_or (dt_cmp (cNe G.toGood.room) G.toGood.K (de_ix G.toGood.K (de_var (i := 2) rfl (.inr (.inl rfl))) de_int) de_str (nomark _)) (dw_or (dt_cmp (cNe G.toGood.room) G.toGood.K (de_len G.toGood.K (T.free 5) (da_cons (de_var (i := 2) rfl (.inr (.inl rfl))) da_nil)) de_int (nomark _)) (dw_or1 (dt_not (dt_val (de_call G.toGood (df__law_is_weighing T) (by omega) (da_cons (de_var (i := 0) rfl (.inl rfl)) (da_cons (de_ix G.toGood.K (de_var (i := 2) rfl (.inr (.inl rfl))) de_int) da_nil))))))))) (dss_one (ds_ret de_bl)) dss_nil) (dss_cons (ds_if (dt_w (dw_or (dt_not (dt_val (de_isi G.toGood.K (T.free 4) (T.free 14) boot_tupleT (de_ix G.toGood.K (de_var (i := 2) rfl (.inr (.inl rfl))) de_int)))) (dw_or1 (dt_cmp (cNe G.toGood.room) G.toGood.K (de_len G.toGood.K (T.free 5) (da_cons (de_ix G.toGood.K (de_var (i := 2) rfl (.inr (.inl rfl))) de_int) da_nil)) de_int (nomark _))))) (dss_one (ds_ret de_bl)) dss_nil) (dss_cons (ds_for G (di_range1 (T.free 9) (da_cons de_int da_nil)) (dg_name (i := 3) G.toGood.nd rfl (.inr rfl)) (dss_cons (ds_lcSet (ps_lc (own := [("_law_case", 6)]) (i := 4) G.toGood rfl rfl (sw_true rfl rfl rfl (by decide +kernel)) (di_seq G.toGood.K (de_var (i := 1) rfl (.inl rfl))) (blkOk_by (by kernel_rfl)) (fun _ _ _ _ _ => (dg_name (i := 6) G.toGood.nd rfl (.inl rfl))) (by decide) (fun _ _ _ _ _ G1 => (dts_one (dt_cmp (cEq G1.room) G1.K (de_call G1 (df__law_came T) (by omega) (da_cons (de_ix G1.K (de_var (i := 2) rfl (.inr (.inl rfl))) de_int) (da_cons (de_var (i := 6) rfl (.inl rfl)) da_nil))) (de_sub (de_var (i := 3) rfl (.inr (.inl rfl))) de_int) (nomark _)))) (fun _ _ _ _ _ G1 => (de_var (i := 6) rfl (.inl rfl))))) (dss_cons (ds_set G.toGood.nd rfl (.inl rfl) (de_ix G.toGood.K (de_ix G.toGood.K (de_var (i := 2) rfl (.inr (.inl rfl))) de_int) (de_var (i := 3) rfl (.inr (.inl rfl))))) (dss_one (ds_if (dt_w (dw_or (dt_w (dw_and (dt_cmp (cEq G.toGood.room) G.toGood.K (de_var (i := 4) rfl (.inl rfl)) (de_lst da_nil) (nomark _)) (dw_and1 (dt_cmp cIsNot G.toGood.K (de_var (i := 5) rfl (.inl rfl)) de_non (nomark _))))) (dw_or1 (dt_w (dw_and (dt_cmp (cNe G.toGood.room) G.toGood.K (de_var (i := 4) rfl (.inl rfl)) (de_lst da_nil) (nomark _)) (dw_and1 (dt_not (dt_val (de_call G.toGood IH__law_is_plan (Nat.le_refl _) (da_cons (de_var (i := 0) rfl (.inl rfl)) (da_cons (de_var (i := 4) rfl (.inl rfl)) (da_cons (de_var (i := 5) rfl (.inl rfl)) da_nil)))))))))))) (dss_one (ds_ret de_bl)) dss_nil))))) (dss_one (ds_ret de_bl)))))))
theorem df__law_is_plan (T : TF K mg) (n : Nat) : Df P w K mg base (cA K) "_law_is_plan" (3 + n) 3 (F__law_is_plan n) := (dfs__law_is_plan T n)
/-! ### _law_length -/
def c__law_length_1 (R__law_length : List D → R D) : Env noObj → R (List D) := (lLc (iSeq (e2 dIx (eVar 0) (eC (.int 2)))) (gN 1) (tV (e2 dIsNot (eVar 1) (eC .none))) (eCall 1 R__law_length (aCons (eVar 1) aNil)) [1])
def g__law_length (R__law_length : List D → R D) : GS noObj := (gSeq (gIf (tV (e2 dEq (e2 dIx (eVar 0) (eC (.int 0))) (eC (.str (Str.ofString "told"))))) (gRet (eC (.int 0))) gNil) (gRet (e2 dAdd (eC (.int 1)) (eA dMax (aCons (eL (c__law_length_1 R__law_length)) aNil)))))
theorem sc__law_length : FnScope ["_law_plan", "_law_part"] ["_law_plan"] (defScope (top 38)) := ⟨rfl, rfl, rfl, by decide +kernel, rfl, by decide +kernel, by decide +kernel⟩
def F__law_length : Nat → List D → R D
  | 0 => fun _ => .stuck
  | n + 1 => runF 2 (g__law_length (F__law_length n))
theorem dfs__law_length (T : TF K mg) : ∀ n, Df P w K mg base (cA K) "_law_length" (0 + n) 1 (F__law_length n)
  | 0 => by
    obtain ⟨fd, FD⟩ := T.says.def_ 26 (d := dF "_law_length" 38) rfl
    exact df_stuck FD (FD.bindsN (ps := ["_law_plan"]) fun _ _ _ _ _ _ us hl => match us, hl with | [_], _ => rfl) (T.glo 42)
  | n + 1 => by
    have IH__law_length := dfs__law_length T n
    obtain ⟨fd, FD⟩ := T.says.def_ 26 (d := dF "_law_length" 38) rfl
    refine df_mk (B := noObj) (N := ["_law_plan", "_law_part"]) (ps := ["_law_plan"]) (k := 0 + n) (g := g__law_length (F__law_length n)) FD sc__law_length (FD.bindsN (ps := ["_law_plan"]) fun _ _ _ _ _ _ us hl => match us, hl with | [_], _ => rfl) (T.glo 42) fun cdv A outer s H E G => ?_
    exact (dss_cons (ds_if (dt_cmp (cEq G.toGood.room) G.toGood.K (de_ix G.toGood.K (de_var (i := 0) rfl (.inl rfl)) de_int) de_str (nomark _)) (dss_one (ds_ret de_int)) dss_nil) (dss_one (ds_ret (de_add G.toGood.K de_int (de_max G.toGood.K G.toGood.calm (T.free 7) (da_cons (de_l (dl_lc (own := [("_law_part", 1)]) G.toGood (di_seq G.toGood.K (de_ix G.toGood.K (de_var (i := 0) rfl (.inl rfl)) de_int)) (blkOk_by (by kernel_rfl)) (fun _ _ _ _ _ => (dg_name (i := 1) G.toGood.nd rfl (.inl rfl))) (by decide) (fun _ _ _ _ _ G1 => (dts_one (dt_cmp cIsNot G1.K (de_var (i := 1) rfl (.inl rfl)) de_non (nomark _)))) (fun _ _ _ _ _ G1 => (de_call G1 IH__law_length (Nat.le_refl _) (da_cons (de_var (i := 1) rfl (.inl rfl)) da_nil))))) da_nil))))))
theorem df__law_length (T : TF K mg) (n : Nat) : Df P w K mg base (cA K) "_law_length" (0 + n) 1 (F__law_length n) := (dfs__law_length T n)
/-! ### _law_apart -/
def c__law_apart_1 : Env noObj → R (List D) := (lLc (iSeq (eVar 2)) (gN 4) (tV (eCall 3 F__law_alike (aCons (eVar 0) (aCons (eVar 3) (aCons (eVar 4) aNil))))) (eVar 4) [4])
def g__law_apart_L1 : GS noObj := (gIf (tBor 2 (tV (e2 dEq (eL c__law_apart_1) (eLst aNil)))) (gApp 2 (eVar 3)) gNil)
def g__law_apart : GS noObj := (gSeq (gOwn 2 (lDisp aNil)) (gSeq (gFor (iSeq (eVar 1)) (gN 3) g__law_apart_L1) (gRetO 2)))
def F__law_apart : List D → R (List D) := runL 5 g__law_apart
theorem sc__law_apart : FnScope ["_law_pans_here", "_law_cases", "_law_found", "_law_case", "_law_other"] ["_law_pans_here", "_law_cases"] (defScope (top 39)) := ⟨rfl, rfl, rfl, by decide +kernel, rfl, by decide +kernel, by decide +kernel⟩
theorem df__law_apart (T : TF K mg) : DfL P w K mg base (cA K) "_law_apart" 3 2 F__law_apart := by
  obtain ⟨fd, FD⟩ := T.says.def_ 27 (d := dF "_law_apart" 39) rfl
  refine dfl_mk (B := noObj) (k := 2) (g := g__law_apart) FD sc__law_apart (FD.bindsN fun _ _ _ _ _ _ us hl => match us, hl with | [_, _], _ => rfl) (T.glo 43) fun cdv A outer s H E G => ?_
  exact (dss_cons (ds_own G.toGood.nd rfl (.inl rfl) (dl_lst da_nil)) (dss_cons (ds_for G (di_seq G.toGood.K (de_var (i := 1) rfl (.inl rfl))) (dg_name (i := 3) G.toGood.nd rfl (.inr rfl)) (dss_one (ds_if (dt_bor 2 (dt_cmp (cEq G.toGood.room) G.toGood.K (de_l (dl_lc (own := [("_law_other", 4)]) G.toGood (di_seq G.toGood.K (de_var (i := 2) rfl (.inl rfl))) (blkOk_by (by kernel_rfl)) (fun _ _ _ _ _ => (dg_name (i := 4) G.toGood.nd rfl (.inl rfl))) (by decide) (fun _ _ _ _ _ G1 => (dts_one (dt_val (de_call G1 (df__law_alike T) (by decide) (da_cons (de_var (i := 0) rfl (.inr (.inl rfl))) (da_cons (de_var (i := 3) rfl (.inr (.inl rfl))) (da_cons (de_var (i := 4) rfl (.inl rfl)) da_nil))))))) (fun _ _ _ _ _ G1 => (de_var (i := 4) rfl (.inl rfl))))) (de_lst da_nil) (nomark _))) (dss_one (ds_app (i := 2) rfl (.inl rfl) (de_var (i := 3) rfl (.inr (.inl rfl))))) dss_nil))) (dss_one (ds_retO (i := 2) rfl (.inl rfl)))))
/-! ### _law_planned -/
def c__law_planned_1 (R__law_planned : List D → R D) : Env noObj → R (List D) := (lLc (iSeq (eVar 1)) (gN 11) tYesD (eCall 2 F__law_came (aCons (eVar 7) (aCons (eVar 11) aNil))) [11])
def c__law_planned_2 (R__law_planned : List D → R D) : Env noObj → R (List D) := (lLc (iSeq (eVar 0)) (gN 7) (tV (e2 dGt (eLenSetL (eL (c__law_planned_1 R__law_planned))) (eC (.int 1)))) (eVar 7) [7])
def c__law_planned_3 (R__law_planned : List D → R D) : Env noObj → R (List D) := (lLc (iSeq (eVar 1)) (gN 11) (tV (e2 dEq (eCall 2 F__law_came (aCons (eVar 7) (aCons (eVar 11) aNil))) (eVar 9))) (eVar 11) [11])
def g__law_planned_L1 (R__law_planned : List D → R D) : GS noObj := (gSeq (gSet 10 (eL (c__law_planned_3 R__law_planned))) (gSeq (gSet 2 (e2 dMod (e2 dAdd (e2 dMul (eVar 2) (eC (.int 16807))) (eC (.int 5))) (eC (.int 1000003)))) (gApp 8 (eIf (tV (e2 dEq (eVar 10) (eLst aNil))) (eC .none) (eCall 4 R__law_planned (aCons (eVar 0) (aCons (eVar 10) (aCons (eVar 2) (aCons (eVar 3) aNil)))))))))
def g__law_planned (R__law_planned : List D → R D) : GS noObj := (gSeq (gSet 4 (eVar 0)) (gSeq (gIf (tOrD (tV (e2 dGt (e2 dMod (eVar 2) (eC (.int 7))) (eC (.int 0)))) (tV (e2 dEq (eVar 3) (eC (.int 0))))) (gSeq (gIf (tV (e2 dEq (eA dLen (aCons (eVar 1) aNil)) (eC (.int 1)))) (gRet (eTup (aCons (eC (.str (Str.ofString "told"))) (aCons (e2 dIx (eVar 1) (eC (.int 0))) aNil)))) gNil) (gSet 4 (eL (c__law_planned_2 R__law_planned)))) (gSet 3 (e2 dSub (eVar 3) (eC (.int 1))))) (gSeq (gTgt (e2 dIx (eVar 4) (e2 dMod (e2 dDiv (eVar 2) (eC (.int 7))) (eA dLen (aCons (eVar 4) aNil)))) (gT 2 (gsC (gN 5) (gsC (gN 6) gsN)))) (gSeq (gSet 7 (e2 dIx (eLst (aCons (eTup (aCons (eVar 5) (aCons (eVar 6) aNil))) (aCons (eTup (aCons (eVar 6) (aCons (eVar 5) aNil))) aNil))) (e2 dMod (e2 dDiv (eVar 2) (eC (.int 200))) (eC (.int 2))))) (gSeq (gOwn 8 (lDisp aNil)) (gSeq (gFor (iSeq (eLst (aCons (e1 dNeg (eC (.int 1))) (aCons (eC (.int 0)) (aCons (eC (.int 1)) aNil))))) (gN 9) (g__law_planned_L1 R__law_planned)) (gFrz 8 (gRet (eTup (aCons (eC (.str (Str.ofString "weigh"))) (aCons (eVar 7) (aCons (eA dTuple (aCons (eVar 8) aNil)) aNil))))))))))))
theorem sc__law_planned : FnScope ["_law_pans_here", "_law_cases", "_law_seed", "_law_wastes", "_law_some", "_law_left", "_law_right", "_law_weighing", "_law_parts", "_law_due", "_law_part", "_law_case"] ["_law_pans_here", "_law_cases", "_law_seed", "_law_wastes"] (defScope (top 40)) := ⟨rfl, rfl, rfl, by decide +kernel, rfl, by decide +kernel, by decide +kernel⟩
def F__law_planned : Nat → List D → R D
  | 0 => fun _ => .stuck
  | n + 1 => runF 12 (g__law_planned (F__law_planned n))
theorem dfs__law_planned (T : TF K mg) : ∀ n, Df P w K mg base (cA K) "_law_planned" (1 + n) 4 (F__law_planned n)
  | 0 => by
    obtain ⟨fd, FD⟩ := T.says.def_ 28 (d := dF "_law_planned" 40) rfl
    exact df_stuck FD (FD.bindsN (ps := ["_law_pans_here", "_law_cases", "_law_seed", "_law_wastes"]) fun _ _ _ _ _ _ us hl => match us, hl with | [_, _, _, _], _ => rfl) (T.glo 44)
  | n + 1 => by
    have IH__law_planned := dfs__law_planned T n
    obtain ⟨fd, FD⟩ := T.says.def_ 28 (d := dF "_law_planned" 40) rfl
    refine df_mk (B := noObj) (N := ["_law_pans_here", "_law_cases", "_law_seed", "_law_wastes", "_law_some", "_law_left", "_law_right", "_law_weighing", "_law_parts", "_law_due", "_law_part", "_law_case"]) (ps := ["_law_pans_here", "_law_cases", "_law_seed", "_law_wastes"]) (k := 1 + n) (g := g__law_planned (F__law_planned n)) FD sc__law_planned (FD.bindsN (ps := ["_law_pans_here", "_law_cases", "_law_seed", "_law_wastes"]) fun _ _ _ _ _ _ us hl => match us, hl with | [_, _, _, _], _ => rfl) (T.glo 44) fun cdv A outer s H E G => ?_
    exact (dss_cons (ds_set G.toGood.nd rfl (.inl rfl) (de_var (i := 0) rfl (.inl rfl))) (dss_cons (ds_if (dt_w (dw_or (dt_cmp cGt G.toGood.K (de_mod (de_var (i := 2) rfl (.inl rfl)) de_int) de_int (nomark _)) (dw_or1 (dt_cmp (cEq G.toGood.room) G.toGood.K (de_var (i := 3) rfl (.inl rfl)) de_int (nomark _))))) (dss_cons (ds_if (dt_cmp (cEq G.toGood.room) G.toGood.K (de_len G.toGood.K (T.free 5) (da_cons (de_var (i := 1) rfl (.inr (.inl rfl))) da_nil)) de_int (nomark _)) (dss_one (ds_ret (de_tup (da_cons de_str (da_cons (de_ix G.toGood.K (de_var (i := 1) rfl (.inr (.inl rfl))) de_int) da_nil))))) dss_nil) (dss_one (ds_lcSet (ps_lc (own := [("_law_weighing", 7)]) (i := 4) G.toGood rfl rfl (sw_true rfl rfl rfl (by decide +kernel)) (di_seq G.toGood.K (de_var (i := 0) rfl (.inl rfl))) (blkOk_by (by kernel_rfl)) (fun _ _ _ _ _ => (dg_name (i := 7) G.toGood.nd rfl (.inr rfl))) (by decide) (fun _ _ _ _ _ G1 => (dts_one (dt_cmp cGt G1.K (de_lenSetL G1 (T.free 5) (T.free 10) (de_l (dl_lc (own := [("_law_case", 11)]) G1 (di_seq G1.K (de_var (i := 1) rfl (.inr (.inl rfl)))) (blkOk_by (by kernel_rfl)) (fun _ _ _ _ _ => (dg_name (i := 11) G1.nd rfl (.inl rfl))) (by decide) (fun _ _ _ _ _ G2 => dts_nil) (fun _ _ _ _ _ G2 => (de_call G2 (df__law_came T) (by omega) (da_cons (de_var (i := 7) rfl (.inr (.inl rfl))) (da_cons (de_var (i := 11) rfl (.inl rfl)) da_nil))))))) de_int (nomark _)))) (fun _ _ _ _ _ G1 => (de_var (i := 7) rfl (.inr (.inl rfl)))))))) (dss_one (ds_set G.toGood.nd rfl (.inl rfl) (de_sub (de_var (i := 3) rfl (.inl rfl)) de_int)))) (dss_cons (ds_tgt G.toGood.K (de_ix G.toGood.K (de_var (i := 4) rfl (.inl rfl)) (de_mod (de_div (de_var (i := 2) rfl (.inl rfl)) de_int) (de_len G.toGood.K (T.free 5) (da_cons (de_var (i := 4) rfl (.inl rfl)) da_nil)))) (dg_tup G.toGood.calm (dgs_cons (dg_name (i := 5) G.toGood.nd rfl (.inl rfl)) (dgs_cons (dg_name (i := 6) G.toGood.nd rfl (.inl rfl)) dgs_nil)))) (dss_cons (ds_set G.toGood.nd rfl (.inr rfl) (de_ix G.toGood.K (de_lst (da_cons (de_tup (da_cons (de_var (i := 5) rfl (.inl rfl)) (da_cons (de_var (i := 6) rfl (.inl rfl)) da_nil))) (da_cons (de_tup (da_cons (de_var (i := 6) rfl (.inl rfl)) (da_cons (de_var (i := 5) rfl (.inl rfl)) da_nil))) da_nil))) (de_mod (de_div (de_var (i := 2) rfl (.inl rfl)) de_int) de_int))) (dss_cons (ds_own G.toGood.nd rfl (.inl rfl) (dl_lst da_nil)) (dss_cons (ds_for G (di_seq G.toGood.K (de_lst (da_cons (de_neg de_int) (da_cons de_int (da_cons de_int da_nil))))) (dg_name (i := 9) G.toGood.nd rfl (.inr rfl)) (dss_cons (ds_lcSet (ps_lc (own := [("_law_case", 11)]) (i := 10) G.toGood rfl rfl (sw_true rfl rfl rfl (by decide +kernel)) (di_seq G.toGood.K (de_var (i := 1) rfl (.inr (.inl rfl)))) (blkOk_by (by kernel_rfl)) (fun _ _ _ _ _ => (dg_name (i := 11) G.toGood.nd rfl (.inl rfl))) (by decide) (fun _ _ _ _ _ G1 => (dts_one (dt_cmp (cEq G1.room) G1.K (de_call G1 (df__law_came T) (by omega) (da_cons (de_var (i := 7) rfl (.inr (.inl rfl))) (da_cons (de_var (i := 11) rfl (.inl rfl)) da_nil))) (de_var (i := 9) rfl (.inr (.inl rfl))) (nomark _)))) (fun _ _ _ _ _ G1 => (de_var (i := 11) rfl (.inl rfl))))) (dss_cons (ds_set G.toGood.nd rfl (.inl rfl) (de_mod (de_add G.toGood.K (de_mul G.toGood.K (de_var (i := 2) rfl (.inl rfl)) de_int) de_int) de_int)) (dss_one (ds_app (i := 8) rfl (.inl rfl) (de_if (dt_cmp (cEq G.toGood.room) G.toGood.K (de_var (i := 10) rfl (.inl rfl)) (de_lst da_nil) (nomark _)) de_non (de_call G.toGood IH__law_planned (Nat.le_refl _) (da_cons (de_var (i := 0) rfl (.inl rfl)) (da_cons (de_var (i := 10) rfl (.inl rfl)) (da_cons (de_var (i := 2) rfl (.inl rfl)) (da_cons (de_var (i := 3) rfl (.inl rfl)) da_nil))))))))))) (dss_frz 8 (dss_one (ds_ret (de_tup (da_cons de_str (da_cons (de_var (i := 7) rfl (.inr (.inl rfl))) (da_cons (de_tuple G.toGood.K (T.free 14) (da_cons (de_var (i := 8) rfl (.inl rfl)) da_nil)) da_nil)))))))))))))
theorem df__law_planned (T : TF K mg) (n : Nat) : Df P w K mg base (cA K) "_law_planned" (1 + n) 4 (F__law_planned n) := (dfs__law_planned T n)
/-! ### _law_thing -/
def c__law_thing_1 : Env noObj → R (List D) := (lLc (iSeq (eVar 4)) (gN 8) tYesD (eIf (tV (e2 dLt (eVar 8) (eC (.int 0)))) (eVar 8) (e2 dEq (eVar 8) (eC (.int 1)))) [8])
def g__law_thing : GS noObj := (gSeq (gSet 4 (e2 dIx (eVar 2) (e2 dMod (e2 dDiv (eVar 3) (eC (.int 16))) (eA dLen (aCons (eVar 2) aNil))))) (gSeq (gIf (tAndD (tV (e2 dEq (e2 dIx (eVar 0) (eC (.int 0))) (eC (.str (Str.ofString "told"))))) (tV (e2 dEq (e2 dMod (e2 dDiv (eVar 3) (eC (.int 16))) (eC (.int 2))) (eC (.int 1))))) (gSet 4 (e2 dIx (eVar 0) (eC (.int 1)))) gNil) (gSeq (gSet 5 (e2 dIx (eVar 1) (e2 dMod (e2 dDiv (eVar 3) (eC (.int 16))) (eA dLen (aCons (eVar 1) aNil))))) (gSeq (gSet 6 (eA dTuple (aCons (eL c__law_thing_1) aNil))) (gSeq (gSet 7 (eLst (aCons (eTup (aCons (eC (.str (Str.ofString "told"))) (aCons (eVar 4) aNil))) (aCons (eC .none) (aCons (eTup (aCons (eC (.str (Str.ofString "told"))) (aCons (eVar 6) aNil))) (aCons (eTup (aCons (eC (.str (Str.ofString "told"))) (aCons (eA dList (aCons (eVar 4) aNil)) aNil))) (aCons (eTup (aCons (eC (.str (Str.ofString "told"))) aNil)) (aCons (eTup (aCons (eC (.str (Str.ofString "told"))) (aCons (eVar 4) (aCons (eVar 4) aNil)))) aNil)))))))) (gSeq (gSet 7 (e2 dAdd (eVar 7) (eLst (aCons (eTup (aCons (eC (.str (Str.ofString "weigh"))) (aCons (eVar 5) (aCons (eTup (aCons (eC .none) (aCons (eTup (aCons (eC (.str (Str.ofString "told"))) (aCons (eVar 4) aNil))) (aCons (eC .none) aNil)))) aNil)))) (aCons (eTup (aCons (eC (.str (Str.ofString "weigh"))) (aCons (eVar 5) (aCons (eTup (aCons (eVar 0) (aCons (eVar 0) (aCons (eVar 0) aNil)))) aNil)))) (aCons (eTup aNil) aNil)))))) (gSeq (gSet 7 (e2 dAdd (eVar 7) (eLst (aCons (eTup (aCons (eC (.str (Str.ofString "weigh"))) (aCons (eVar 5) aNil))) (aCons (eC (.str (Str.ofString "told"))) (aCons (eC (.int 5)) (aCons (eLst (aCons (eC (.str (Str.ofString "told"))) (aCons (eVar 4) aNil))) (aCons (eTup (aCons (eC (.str (Str.ofString "tell"))) (aCons (eVar 4) aNil))) (aCons (eTup (aCons (eC .none) (aCons (eVar 4) aNil))) (aCons (eC (.dict [])) aNil)))))))))) (gRet (e2 dIx (eVar 7) (e2 dMod (eVar 3) (eC (.int 16))))))))))))
def F__law_thing : List D → R D := runF 9 g__law_thing
theorem sc__law_thing : FnScope ["_law_plan", "_law_pans_here", "_law_cases", "_law_cell", "_law_case", "_law_weighing", "_law_truths", "_law_some", "_law_one"] ["_law_plan", "_law_pans_here", "_law_cases", "_law_cell"] (defScope (top 41)) := ⟨rfl, rfl, rfl, by decide +kernel, rfl, by decide +kernel, by decide +kernel⟩
theorem df__law_thing (T : TF K mg) : Df P w K mg base (cA K) "_law_thing" 1 4 F__law_thing := by
  obtain ⟨fd, FD⟩ := T.says.def_ 29 (d := dF "_law_thing" 41) rfl
  refine df_mk (B := noObj) (k := 0) (g := g__law_thing) FD sc__law_thing (FD.bindsN fun _ _ _ _ _ _ us hl => match us, hl with | [_, _, _, _], _ => rfl) (T.glo 45) fun cdv A outer s H E G => ?_
  exact (dss_cons (ds_set G.toGood.nd rfl (.inl rfl) (de_ix G.toGood.K (de_var (i := 2) rfl (.inl rfl)) (de_mod (de_div (de_var (i := 3) rfl (.inl rfl)) de_int) (de_len G.toGood.K (T.free 5) (da_cons (de_var (i := 2) rfl (.inl rfl)) da_nil))))) (dss_cons (ds_if (dt_w (dw_and (dt_cmp (cEq G.toGood.room) G.toGood.K (de_ix G.toGood.K (de_var (i := 0) rfl (.inl rfl)) de_int) de_str (nomark _)) (dw_and1 (dt_cmp (cEq G.toGood.room) G.toGood.K (de_mod (de_div (de_var (i := 3) rfl (.inl rfl)) de_int) de_int) de_int (nomark _))))) (dss_one (ds_set G.toGood.nd rfl (.inl rfl) (de_ix G.toGood.K (de_var (i := 0) rfl (.inl rfl)) de_int))) dss_nil) (dss_cons (ds_set G.toGood.nd rfl (.inl rfl) (de_ix G.toGood.K (de_var (i := 1) rfl (.inl rfl)) (de_mod (de_div (de_var (i := 3) rfl (.inl rfl)) de_int) (de_len G.toGood.K (T.free 5) (da_cons (de_var (i := 1) rfl (.inl rfl)) da_nil))))) (dss_cons (ds_set G.toGood.nd rfl (.inl rfl) (de_tuple G.toGood.K (T.free 14) (da_cons (de_l (dl_lc (own := [("_law_one", 8)]) G.toGood (di_seq G.toGood.K (de_var (i := 4) rfl (.inl rfl))) (blkOk_by (by kernel_rfl)) (fun _ _ _ _ _ => (dg_name (i := 8) G.toGood.nd rfl (.inl rfl))) (by decide) (fun _ _ _ _ _ G1 => dts_nil) (fun _ _ _ _ _ G1 => (de_if (dt_cmp cLt G1.K (de_var (i := 8) rfl (.inl rfl)) de_int (nomark _)) (de_var (i := 8) rfl (.inl rfl)) (de_cmp (cEq G1.room) G1.K (de_var (i := 8) rfl (.inl rfl)) de_int (nomark _)))))) da_nil))) (dss_cons (ds_set G.toGood.nd rfl (.inl rfl) (de_lst (da_cons (de_tup (da_cons de_str (da_cons (de_var (i := 4) rfl (.inl rfl)) da_nil))) (da_cons de_non (da_cons (de_tup (da_cons de_str (da_cons (de_var (i := 6) rfl (.inl rfl)) da_nil))) (da_cons (de_tup (da_cons de_str (da_cons (de_list G.toGood.K (T.free 6) (da_cons (de_var (i := 4) rfl (.inl rfl)) da_nil)) da_nil))) (da_cons (de_tup (da_cons de_str da_nil)) (da_cons (de_tup (da_cons de_str (da_cons (de_var (i := 4) rfl (.inl rfl)) (da_cons (de_var (i := 4) rfl (.inl rfl)) da_nil)))) da_nil)))))))) (dss_cons (ds_set G.toGood.nd rfl (.inl rfl) (de_add G.toGood.K (de_var (i := 7) rfl (.inl rfl)) (de_lst (da_cons (de_tup (da_cons de_str (da_cons (de_var (i := 5) rfl (.inl rfl)) (da_cons (de_tup (da_cons de_non (da_cons (de_tup (da_cons de_str (da_cons (de_var (i := 4) rfl (.inl rfl)) da_nil))) (da_cons de_non da_nil)))) da_nil)))) (da_cons (de_tup (da_cons de_str (da_cons (de_var (i := 5) rfl (.inl rfl)) (da_cons (de_tup (da_cons (de_var (i := 0) rfl (.inl rfl)) (da_cons (de_var (i := 0) rfl (.inl rfl)) (da_cons (de_var (i := 0) rfl (.inl rfl)) da_nil)))) da_nil)))) (da_cons (de_tup da_nil) da_nil)))))) (dss_cons (ds_set G.toGood.nd rfl (.inl rfl) (de_add G.toGood.K (de_var (i := 7) rfl (.inl rfl)) (de_lst (da_cons (de_tup (da_cons de_str (da_cons (de_var (i := 5) rfl (.inl rfl)) da_nil))) (da_cons de_str (da_cons de_int (da_cons (de_lst (da_cons de_str (da_cons (de_var (i := 4) rfl (.inl rfl)) da_nil))) (da_cons (de_tup (da_cons de_str (da_cons (de_var (i := 4) rfl (.inl rfl)) da_nil))) (da_cons (de_tup (da_cons de_non (da_cons (de_var (i := 4) rfl (.inl rfl)) da_nil))) (da_cons de_dic da_nil)))))))))) (dss_one (ds_ret (de_ix G.toGood.K (de_var (i := 7) rfl (.inl rfl)) (de_mod (de_var (i := 3) rfl (.inl rfl)) de_int)))))))))))
/-! ### _law_told_in -/
def g__law_told_in (R__law_told_in : List D → R D) : GS noObj := (gSeq (gIf (tV (e2 dIs (eVar 0) (eC .none))) (gRet (eLst aNil)) gNil) (gSeq (gIf (tV (e2 dEq (e2 dIx (eVar 0) (eC (.int 0))) (eC (.str (Str.ofString "told"))))) (gRet (eLst (aCons (e2 dIx (eVar 0) (eC (.int 1))) aNil))) gNil) (gRet (e2 dAdd (e2 dAdd (eCall 1 R__law_told_in (aCons (e2 dIx (e2 dIx (eVar 0) (eC (.int 2))) (eC (.int 0))) aNil)) (eCall 1 R__law_told_in (aCons (e2 dIx (e2 dIx (eVar 0) (eC (.int 2))) (eC (.int 1))) aNil))) (eCall 1 R__law_told_in (aCons (e2 dIx (e2 dIx (eVar 0) (eC (.int 2))) (eC (.int 2))) aNil))))))
theorem sc__law_told_in : FnScope ["_law_plan"] ["_law_plan"] (defScope (top 42)) := ⟨rfl, rfl, rfl, by decide +kernel, rfl, by decide +kernel, by decide +kernel⟩
def F__law_told_in : Nat → List D → R D
  | 0 => fun _ => .stuck
  | n + 1 => runF 1 (g__law_told_in (F__law_told_in n))
theorem dfs__law_told_in (T : TF K mg) : ∀ n, Df P w K mg base (cA K) "_law_told_in" (0 + n) 1 (F__law_told_in n)
  | 0 => by
    obtain ⟨fd, FD⟩ := T.says.def_ 30 (d := dF "_law_told_in" 42) rfl
    exact df_stuck FD (FD.bindsN (ps := ["_law_plan"]) fun _ _ _ _ _ _ us hl => match us, hl with | [_], _ => rfl) (T.glo 46)
  | n + 1 => by
    have IH__law_told_in := dfs__law_told_in T n
    obtain ⟨fd, FD⟩ := T.says.def_ 30 (d := dF "_law_told_in" 42) rfl
    refine df_mk (B := noObj) (N := ["_law_plan"]) (ps := ["_law_plan"]) (k := 0 + n) (g := g__law_told_in (F__law_told_in n)) FD sc__law_told_in (FD.bindsN (ps := ["_law_plan"]) fun _ _ _ _ _ _ us hl => match us, hl with | [_], _ => rfl) (T.glo 46) fun cdv A outer s H E G => ?_
    exact (dss_cons (ds_if (dt_cmp cIs G.toGood.K (de_var (i := 0) rfl (.inl rfl)) de_non (nomark _)) (dss_one (ds_ret (de_lst da_nil))) dss_nil) (dss_cons (ds_if (dt_cmp (cEq G.toGood.room) G.toGood.K (de_ix G.toGood.K (de_var (i := 0) rfl (.inl rfl)) de_int) de_str (nomark _)) (dss_one (ds_ret (de_lst (da_cons (de_ix G.toGood.K (de_var (i := 0) rfl (.inl rfl)) de_int) da_nil)))) dss_nil) (dss_one (ds_ret (de_add G.toGood.K (de_add G.toGood.K (de_call G.toGood IH__law_told_in (Nat.le_refl _) (da_cons (de_ix G.toGood.K (de_ix G.toGood.K (de_var (i := 0) rfl (.inl rfl)) de_int) de_int) da_nil)) (de_call G.toGood IH__law_told_in (Nat.le_refl _) (da_cons (de_ix G.toGood.K (de_ix G.toGood.K (de_var (i := 0) rfl (.inl rfl)) de_int) de_int) da_nil))) (de_call G.toGood IH__law_told_in (Nat.le_refl _) (da_cons (de_ix G.toGood.K (de_ix G.toGood.K (de_var (i := 0) rfl (.inl rfl)) de_int) de_int) da_nil)))))))
theorem df__law_told_in (T : TF K mg) (n : Nat) : Df P w K mg base (cA K) "_law_told_in" (0 + n) 1 (F__law_told_in n) := (dfs__law_told_in T n)
/-! ### _law_here_changed -/
def c__law_here_changed_1 : Env noObj → R (List D) := (lLc (iSeq (eVar 2)) (gN 11) (tV (e2 dIn (eVar 11) (eVar 4))) (eVar 11) [11])
def g__law_here_changed : GS noObj := (gSeq (gIf (tV (e2 dEq (e2 dMod (eVar 3) (eC (.int 7))) (eC (.int 6)))) (gSeq (gSet 4 (eCall 1 (F__law_told_in 40) (aCons (eVar 0) aNil))) (gRet (eTup (aCons (eC (.str (Str.ofString "told"))) (aCons (e2 dIx (eL c__law_here_changed_1) (eC (.int 0))) aNil))))) gNil) (gSeq (gIf (tOrD (tV (e2 dEq (e2 dIx (eVar 0) (eC (.int 0))) (eC (.str (Str.ofString "told"))))) (tV (e2 dEq (e2 dMod (eVar 3) (eC (.int 6))) (eC (.int 0))))) (gRet (eCall 4 F__law_thing (aCons (eVar 0) (aCons (eVar 1) (aCons (eVar 2) (aCons (e2 dDiv (eVar 3) (eC (.int 6))) aNil)))))) gNil) (gSeq (gTgt (eVar 0) (gT 3 (gsC (gN 5) (gsC (gN 6) (gsC (gN 7) gsN))))) (gSeq (gSet 8 (e2 dIx (eVar 1) (e2 dMod (e2 dDiv (eVar 3) (eC (.int 36))) (eA dLen (aCons (eVar 1) aNil))))) (gSeq (gIf (tV (e2 dEq (e2 dMod (eVar 3) (eC (.int 6))) (eC (.int 1)))) (gSeq (gSet 9 (eTup (aCons (e2 dIx (eVar 6) (eC (.int 1))) (aCons (e2 dIx (eVar 6) (eC (.int 0))) aNil)))) (gRet (eTup (aCons (eVar 5) (aCons (e2 dIx (eLst (aCons (eVar 9) (aCons (eVar 8) (aCons (eA dList (aCons (eVar 6) aNil)) (aCons (eTup (aCons (e2 dIx (eVar 6) (eC (.int 0))) (aCons (e2 dIx (eVar 6) (eC (.int 0))) aNil))) (aCons (eC .none) (aCons (eVar 9) aNil))))))) (e2 dMod (e2 dDiv (eVar 3) (eC (.int 6))) (eC (.int 6)))) (aCons (eVar 7) aNil)))))) gNil) (gSeq (gIf (tV (e2 dEq (e2 dMod (eVar 3) (eC (.int 6))) (eC (.int 2)))) (gRet (eTup (aCons (eVar 5) (aCons (eVar 6) (aCons (e2 dIx (eLst (aCons (e1 dRevT (eVar 7)) (aCons (eA dList (aCons (eVar 7) aNil)) (aCons (e2 dAdd (eVar 7) (eTup (aCons (eC .none) aNil))) (aCons (eSl (eVar 7) oNone (oSome (eC (.int 2)))) (aCons (eC .none) (aCons (eTup aNil) aNil))))))) (e2 dMod (e2 dDiv (eVar 3) (eC (.int 6))) (eC (.int 6)))) aNil))))) gNil) (gSeq (gIf (tV (e2 dEq (e2 dMod (eVar 3) (eC (.int 6))) (eC (.int 3)))) (gRet (e2 dIx (eLst (aCons (e2 dAdd (eVar 0) (eTup (aCons (eC .none) aNil))) (aCons (eSl (eVar 0) oNone (oSome (eC (.int 2)))) (aCons (eA dList (aCons (eVar 0) aNil)) (aCons (e2 dAdd (eTup (aCons (eC (.str (Str.ofString "Weigh"))) aNil)) (eSl (eVar 0) (oSome (eC (.int 1))) oNone)) (aCons (e2 dAdd (eTup (aCons (eC (.int 5)) aNil)) (eSl (eVar 0) (oSome (eC (.int 1))) oNone)) (aCons (e1 dRevT (eVar 0)) aNil))))))) (e2 dMod (e2 dDiv (eVar 3) (eC (.int 6))) (eC (.int 6))))) gNil) (gSeq (gSet 10 (e2 dMod (e2 dDiv (eVar 3) (eC (.int 6))) (eC (.int 3)))) (gSeq (gIf (tV (e2 dEq (e2 dMod (eVar 3) (eC (.int 6))) (eC (.int 4)))) (gRet (eTup (aCons (eVar 5) (aCons (eTup (aCons (e2 dIx (eVar 6) (eC (.int 1))) (aCons (e2 dIx (eVar 6) (eC (.int 0))) aNil))) (aCons (e1 dRevT (eVar 7)) aNil))))) gNil) (gRet (eTup (aCons (eVar 5) (aCons (eVar 6) (aCons (e2 dAdd (e2 dAdd (eSl (eVar 7) oNone (oSome (eVar 10))) (eTup (aCons (eCall 4 F__law_thing (aCons (eVar 0) (aCons (eVar 1) (aCons (eVar 2) (aCons (e2 dDiv (eVar 3) (eC (.int 18))) aNil))))) aNil))) (eSl (eVar 7) (oSome (e2 dAdd (eVar 10) (eC (.int 1)))) oNone)) aNil))))))))))))))
def F__law_here_changed : List D → R D := runF 12 g__law_here_changed
theorem sc__law_here_changed : FnScope ["_law_plan", "_law_pans_here", "_law_cases", "_law_cell", "_law_some", "_law_word", "_law_weighing", "_law_parts", "_law_other", "_law_turned", "_law_at", "_law_case"] ["_law_plan", "_law_pans_here", "_law_cases", "_law_cell"] (defScope (top 43)) := ⟨rfl, rfl, rfl, by decide +kernel, rfl, by decide +kernel, by decide +kernel⟩
theorem df__law_here_changed (T : TF K mg) : Df P w K mg base (cA K) "_law_here_changed" 41 4 F__law_here_changed := by
  obtain ⟨fd, FD⟩ := T.says.def_ 31 (d := dF "_law_here_changed" 43) rfl
  refine df_mk (B := noObj) (k := 40) (g := g__law_here_changed) FD sc__law_here_changed (FD.bindsN fun _ _ _ _ _ _ us hl => match us, hl with | [_, _, _, _], _ => rfl) (T.glo 47) fun cdv A outer s H E G => ?_
  exact (dss_cons (ds_if (dt_cmp (cEq G.toGood.room) G.toGood.K (de_mod (de_var (i := 3) rfl (.inl rfl)) de_int) de_int (nomark _)) (dss_cons (ds_set G.toGood.nd rfl (.inr rfl) (de_call G.toGood (df__law_told_in T 40) (by decide) (da_cons (de_var (i := 0) rfl (.inl rfl)) da_nil))) (dss_one (ds_ret (de_tup (da_cons de_str (da_cons (de_ix G.toGood.K (de_l (dl_lc (own := [("_law_case", 11)]) G.toGood (di_seq G.toGood.K (de_var (i := 2) rfl (.inl rfl))) (blkOk_by (by kernel_rfl)) (fun _ _ _ _ _ => (dg_name (i := 11) G.toGood.nd rfl (.inl rfl))) (by decide) (fun _ _ _ _ _ G1 => (dts_one (dt_cmp (cIn G1.room) G1.K (de_var (i := 11) rfl (.inl rfl)) (de_var (i := 4) rfl (.inr (.inl rfl))) rfl))) (fun _ _ _ _ _ G1 => (de_var (i := 11) rfl (.inl rfl))))) de_int) da_nil)))))) dss_nil) (dss_cons (ds_if (dt_w (dw_or (dt_cmp (cEq G.toGood.room) G.toGood.K (de_ix G.toGood.K (de_var (i := 0) rfl (.inl rfl)) de_int) de_str (nomark _)) (dw_or1 (dt_cmp (cEq G.toGood.room) G.toGood.K (de_mod (de_var (i := 3) rfl (.inl rfl)) de_int) de_int (nomark _))))) (dss_one (ds_ret (de_call G.toGood (df__law_thing T) (by decide) (da_cons (de_var (i := 0) rfl (.inl rfl)) (da_cons (de_var (i := 1) rfl (.inl rfl)) (da_cons (de_var (i := 2) rfl (.inl rfl)) (da_cons (de_div (de_var (i := 3) rfl (.inl rfl)) de_int) da_nil))))))) dss_nil) (dss_cons (ds_tgt G.toGood.K (de_var (i := 0) rfl (.inl rfl)) (dg_tup G.toGood.calm (dgs_cons (dg_name (i := 5) G.toGood.nd rfl (.inl rfl)) (dgs_cons (dg_name (i := 6) G.toGood.nd rfl (.inl rfl)) (dgs_cons (dg_name (i := 7) G.toGood.nd rfl (.inl rfl)) dgs_nil))))) (dss_cons (ds_set G.toGood.nd rfl (.inl rfl) (de_ix G.toGood.K (de_var (i := 1) rfl (.inl rfl)) (de_mod (de_div (de_var (i := 3) rfl (.inl rfl)) de_int) (de_len G.toGood.K (T.free 5) (da_cons (de_var (i := 1) rfl (.inl rfl)) da_nil))))) (dss_cons (ds_if (dt_cmp (cEq G.toGood.room) G.toGood.K (de_mod (de_var (i := 3) rfl (.inl rfl)) de_int) de_int (nomark _)) (dss_cons (ds_set G.toGood.nd rfl (.inl rfl) (de_tup (da_cons (de_ix G.toGood.K (de_var (i := 6) rfl (.inl rfl)) de_int) (da_cons (de_ix G.toGood.K (de_var (i := 6) rfl (.inl rfl)) de_int) da_nil)))) (dss_one (ds_ret (de_tup (da_cons (de_var (i := 5) rfl (.inl rfl)) (da_cons (de_ix G.toGood.K (de_lst (da_cons (de_var (i := 9) rfl (.inl rfl)) (da_cons (de_var (i := 8) rfl (.inl rfl)) (da_cons (de_list G.toGood.K (T.free 6) (da_cons (de_var (i := 6) rfl (.inl rfl)) da_nil)) (da_cons (de_tup (da_cons (de_ix G.toGood.K (de_var (i := 6) rfl (.inl rfl)) de_int) (da_cons (de_ix G.toGood.K (de_var (i := 6) rfl (.inl rfl)) de_int) da_nil))) (da_cons de_non (da_cons (de_var (i := 9) rfl (.inl rfl)) da_nil))))))) (de_mod (de_div (de_var (i := 3) rfl (.inl rfl)) de_int) de_int)) (da_cons (de_var (i := 7) rfl (.inl rfl)) da_nil))))))) dss_nil) (dss_cons (ds_if (dt_cmp (cEq G.toGood.room) G.toGood.K (de_mod (de_var (i := 3) rfl (.inl rfl)) de_int) de_int (nomark _)) (dss_one (ds_ret (de_tup (da_cons (de_var (i := 5) rfl (.inl rfl)) (da_cons (de_var (i := 6) rfl (.inl rfl)) (da_cons (de_ix G.toGood.K (de_lst (da_cons (de_revT G.toGood.K (de_var (i := 7) rfl (.inl rfl))) (da_cons (de_list G.toGood.K (T.free 6) (da_cons (de_var (i := 7) rfl (.inl rfl)) da_nil)) (da_cons (de_add G.toGood.K (de_var (i := 7) rfl (.inl rfl)) (de_tup (da_cons de_non da_nil))) (da_cons (de_sl G.toGood.K (de_var (i := 7) rfl (.inl rfl)) do_none (do_some de_int)) (da_cons de_non (da_cons (de_tup da_nil) da_nil))))))) (de_mod (de_div (de_var (i := 3) rfl (.inl rfl)) de_int) de_int)) da_nil)))))) dss_nil) (dss_cons (ds_if (dt_cmp (cEq G.toGood.room) G.toGood.K (de_mod (de_var (i := 3) rfl (.inl rfl)) de_int) de_int (nomark _)) (dss_one (ds_ret (de_ix G.toGood.K (de_lst (da_cons (de_add G.toGood.K (de_var (i := 0) rfl (.inl rfl)) (de_tup (da_cons de_non da_nil))) (da_cons (de_sl G.toGood.K (de_var (i := 0) rfl (.inl rfl)) do_none (do_some de_int)) (da_cons (de_list G.toGood.K (T.free 6) (da_cons (de_var (i := 0) rfl (.inl rfl)) da_nil)) (da_cons (de_add G.toGood.K (de_tup (da_cons de_str da_nil)) (de_sl G.toGood.K (de_var (i := 0) rfl (.inl rfl)) (do_some de_int) do_none)) (da_cons (de_add G.toGood.K (de_tup (da_cons de_int da_nil)) (de_sl G.toGood.K (de_var (i := 0) rfl (.inl rfl)) (do_some de_int) do_none)) (da_cons (de_revT G.toGood.K (de_var (i := 0) rfl (.inl rfl))) da_nil))))))) (de_mod (de_div (de_var (i := 3) rfl (.inl rfl)) de_int) de_int)))) dss_nil) (dss_cons (ds_set G.toGood.nd rfl (.inl rfl) (de_mod (de_div (de_var (i := 3) rfl (.inl rfl)) de_int) de_int)) (dss_cons (ds_if (dt_cmp (cEq G.toGood.room) G.toGood.K (de_mod (de_var (i := 3) rfl (.inl rfl)) de_int) de_int (nomark _)) (dss_one (ds_ret (de_tup (da_cons (de_var (i := 5) rfl (.inl rfl)) (da_cons (de_tup (da_cons (de_ix G.toGood.K (de_var (i := 6) rfl (.inl rfl)) de_int) (da_cons (de_ix G.toGood.K (de_var (i := 6) rfl (.inl rfl)) de_int) da_nil))) (da_cons (de_revT G.toGood.K (de_var (i := 7) rfl (.inl rfl))) da_nil)))))) dss_nil) (dss_one (ds_ret (de_tup (da_cons (de_var (i := 5) rfl (.inl rfl)) (da_cons (de_var (i := 6) rfl (.inl rfl)) (da_cons (de_add G.toGood.K (de_add G.toGood.K (de_sl G.toGood.K (de_var (i := 7) rfl (.inl rfl)) do_none (do_some (de_var (i := 10) rfl (.inl rfl)))) (de_tup (da_cons (de_call G.toGood (df__law_thing T) (by decide) (da_cons (de_var (i := 0) rfl (.inl rfl)) (da_cons (de_var (i := 1) rfl (.inl rfl)) (da_cons (de_var (i := 2) rfl (.inl rfl)) (da_cons (de_div (de_var (i := 3) rfl (.inl rfl)) de_int) da_nil))))) da_nil))) (de_sl G.toGood.K (de_var (i := 7) rfl (.inl rfl)) (do_some (de_add G.toGood.K (de_var (i := 10) rfl (.inl rfl)) de_int)) do_none)) da_nil)))))))))))))))
/-! ### _law_changed -/
def c__law_changed_1 (R__law_changed : List D → R D) : Env noObj → R (List D) := (lLc (iRng1 (aCons (eC (.int 3)) aNil)) (gN 7) (tV (e2 dIsNot (e2 dIx (e2 dIx (eVar 0) (eC (.int 2))) (eVar 7)) (eC .none))) (eVar 7) [7])
def g__law_changed (R__law_changed : List D → R D) : GS noObj := (gSeq (gIf (tAndD (tV (e2 dEq (e2 dIx (eVar 0) (eC (.int 0))) (eC (.str (Str.ofString "weigh"))))) (tV (e2 dGt (e2 dMod (eVar 3) (eC (.int 3))) (eC (.int 0))))) (gSeq (gSet 4 (eL (c__law_changed_1 R__law_changed))) (gSeq (gSet 5 (e2 dIx (eVar 4) (e2 dMod (e2 dDiv (eVar 3) (eC (.int 3))) (eA dLen (aCons (eVar 4) aNil))))) (gSeq (gSet 6 (eCall 4 R__law_changed (aCons (e2 dIx (e2 dIx (eVar 0) (eC (.int 2))) (eVar 5)) (aCons (eVar 1) (aCons (eVar 2) (aCons (e2 dDiv (eVar 3) (eC (.int 9))) aNil)))))) (gRet (eTup (aCons (e2 dIx (eVar 0) (eC (.int 0))) (aCons (e2 dIx (eVar 0) (eC (.int 1))) (aCons (e2 dAdd (e2 dAdd (eSl (e2 dIx (eVar 0) (eC (.int 2))) oNone (oSome (eVar 5))) (eTup (aCons (eVar 6) aNil))) (eSl (e2 dIx (eVar 0) (eC (.int 2))) (oSome (e2 dAdd (eVar 5) (eC (.int 1)))) oNone)) aNil)))))))) gNil) (gRet (eCall 4 F__law_here_changed (aCons (eVar 0) (aCons (eVar 1) (aCons (eVar 2) (aCons (e2 dDiv (eVar 3) (eC (.int 3))) aNil)))))))
theorem sc__law_changed : FnScope ["_law_plan", "_law_pans_here", "_law_cases", "_law_cell", "_law_some", "_law_at", "_law_part", "_law_k"] ["_law_plan", "_law_pans_here", "_law_cases", "_law_cell"] (defScope (top 44)) := ⟨rfl, rfl, rfl, by decide +kernel, rfl, by decide +kernel, by decide +kernel⟩
def F__law_changed : Nat → List D → R D
  | 0 => fun _ => .stuck
  | n + 1 => runF 8 (g__law_changed (F__law_changed n))
theorem dfs__law_changed (T : TF K mg) : ∀ n, Df P w K mg base (cA K) "_law_changed" (41 + n) 4 (F__law_changed n)
  | 0 => by
    obtain ⟨fd, FD⟩ := T.says.def_ 32 (d := dF "_law_changed" 44) rfl
    exact df_stuck FD (FD.bindsN (ps := ["_law_plan", "_law_pans_here", "_law_cases", "_law_cell"]) fun _ _ _ _ _ _ us hl => match us, hl with | [_, _, _, _], _ => rfl) (T.glo 48)
  | n + 1 => by
    have IH__law_changed := dfs__law_changed T n
    obtain ⟨fd, FD⟩ := T.says.def_ 32 (d := dF "_law_changed" 44) rfl
    refine df_mk (B := noObj) (N := ["_law_plan", "_law_pans_here", "_law_cases", "_law_cell", "_law_some", "_law_at", "_law_part", "_law_k"]) (ps := ["_law_plan", "_law_pans_here", "_law_cases", "_law_cell"]) (k := 41 + n) (g := g__law_changed (F__law_changed n)) FD sc__law_changed (FD.bindsN (ps := ["_law_plan", "_law_pans_here", "_law_cases", "_law_cell"]) fun _ _ _ _ _ _ us hl => match us, hl with | [_, _, _, _], _ => rfl) (T.glo 48) fun cdv A outer s H E G => ?_
    exact (dss_cons (ds_if (dt_w (dw_and (dt_cmp (cEq G.toGood.room) G.toGood.K (de_ix G.toGood.K (de_var (i := 0) rfl (.inr (.inl rfl))) de_int) de_str (nomark _)) (dw_and1 (dt_cmp cGt G.toGood.K (de_mod (de_var (i := 3) rfl (.inl rfl)) de_int) de_int (nomark _))))) (dss_cons (ds_lcSet (ps_lc (own := [("_law_k", 7)]) (i := 4) G.toGood rfl rfl (sw_true rfl rfl rfl (by decide +kernel)) (di_range1 (T.free 9) (da_cons de_int da_nil)) (blkOk_by (by kernel_rfl)) (fun _ _ _ _ _ => (dg_name (i := 7) G.toGood.nd rfl (.inl rfl))) (by decide) (fun _ _ _ _ _ G1 => (dts_one (dt_cmp cIsNot G1.K (de_ix G1.K (de_ix G1.K (de_var (i := 0) rfl (.inr (.inl rfl))) de_int) (de_var (i := 7) rfl (.inl rfl))) de_non (nomark _)))) (fun _ _ _ _ _ G1 => (de_var (i := 7) rfl (.inl rfl))))) (dss_cons (ds_set G.toGood.nd rfl (.inl rfl) (de_ix G.toGood.K (de_var (i := 4) rfl (.inl rfl)) (de_mod (de_div (de_var (i := 3) rfl (.inl rfl)) de_int) (de_len G.toGood.K (T.free 5) (da_cons (de_var (i := 4) rfl (.inl rfl)) da_nil))))) (dss_cons (ds_set G.toGood.nd rfl (.inl rfl) (de_call G.toGood IH__law_changed (Nat.le_refl _) (da_cons (de_ix G.toGood.K (de_ix G.toGood.K (de_var (i := 0) rfl (.inr (.inl rfl))) de_int) (de_var (i := 5) rfl (.inl rfl))) (da_cons (de_var (i := 1) rfl (.inl rfl)) (da_cons (de_var (i := 2) rfl (.inl rfl)) (da_cons (de_div (de_var (i := 3) rfl (.inl rfl)) de_int) da_nil)))))) (dss_one (ds_ret (de_tup (da_cons (de_ix G.toGood.K (de_var (i := 0) rfl (.inr (.inl rfl))) de_int) (da_cons (de_ix G.toGood.K (de_var (i := 0) rfl (.inr (.inl rfl))) de_int) (da_cons (de_add G.toGood.K (de_add G.toGood.K (de_sl G.toGood.K (de_ix G.toGood.K (de_var (i := 0) rfl (.inr (.inl rfl))) de_int) do_none (do_some (de_var (i := 5) rfl (.inl rfl)))) (de_tup (da_cons (de_var (i := 6) rfl (.inl rfl)) da_nil))) (de_sl G.toGood.K (de_ix G.toGood.K (de_var (i := 0) rfl (.inr (.inl rfl))) de_int) (do_some (de_add G.toGood.K (de_var (i := 5) rfl (.inl rfl)) de_int)) do_none)) da_nil))))))))) dss_nil) (dss_one (ds_ret (de_call G.toGood (df__law_here_changed T) (by omega) (da_cons (de_var (i := 0) rfl (.inr (.inl rfl))) (da_cons (de_var (i := 1) rfl (.inl rfl)) (da_cons (de_var (i := 2) rfl (.inl rfl)) (da_cons (de_div (de_var (i := 3) rfl (.inl rfl)) de_int) da_nil))))))))
theorem df__law_changed (T : TF K mg) (n : Nat) : Df P w K mg base (cA K) "_law_changed" (41 + n) 4 (F__law_changed n) := (dfs__law_changed T n)
/-! ### _law_walk -/
def g__law_walk_L1 : GS noObj := (gSeq (gApp 2 (eTup (aCons (e2 dIx (eVar 0) (eC (.int 1))) (aCons (eCall 2 F__law_came (aCons (e2 dIx (eVar 0) (eC (.int 1))) (aCons (eVar 1) aNil))) aNil)))) (gSet 0 (e2 dIx (e2 dIx (eVar 0) (eC (.int 2))) (eBor 2 (e2 dAdd (e2 dIx (e2 dIx (eVar 2) (e1 dNeg (eC (.int 1)))) (eC (.int 1))) (eC (.int 1)))))))
def g__law_walk : GS noObj := (gSeq (gOwn 2 (lDisp aNil)) (gSeq (whileF (tV (e2 dEq (e2 dIx (eVar 0) (eC (.int 0))) (eC (.str (Str.ofString "weigh"))))) g__law_walk_L1 60) (gRetO 2)))
def F__law_walk : List D → R (List D) := runL 3 g__law_walk
theorem sc__law_walk : FnScope ["_law_plan", "_law_case", "_law_found"] ["_law_plan", "_law_case"] (defScope (top 45)) := ⟨rfl, rfl, rfl, by decide +kernel, rfl, by decide +kernel, by decide +kernel⟩
theorem df__law_walk (T : TF K mg) : DfL P w K mg base (cA K) "_law_walk" 2 2 F__law_walk := by
  obtain ⟨fd, FD⟩ := T.says.def_ 33 (d := dF "_law_walk" 45) rfl
  refine dfl_mk (B := noObj) (k := 1) (g := g__law_walk) FD sc__law_walk (FD.bindsN fun _ _ _ _ _ _ us hl => match us, hl with | [_, _], _ => rfl) (T.glo 49) fun cdv A outer s H E G => ?_
  exact (dss_cons (ds_own G.toGood.nd rfl (.inl rfl) (dl_lst da_nil)) (dss_cons (ds_while 60 G (dt_cmp (cEq G.toGood.room) G.toGood.K (de_ix G.toGood.K (de_var (i := 0) rfl (.inl rfl)) de_int) de_str (nomark _)) (dss_cons (ds_app (i := 2) rfl (.inl rfl) (de_tup (da_cons (de_ix G.toGood.K (de_var (i := 0) rfl (.inl rfl)) de_int) (da_cons (de_call G.toGood (df__law_came T) (by decide) (da_cons (de_ix G.toGood.K (de_var (i := 0) rfl (.inl rfl)) de_int) (da_cons (de_var (i := 1) rfl (.inl rfl)) da_nil))) da_nil)))) (dss_one (ds_set G.toGood.nd rfl (.inl rfl) (de_ix G.toGood.K (de_ix G.toGood.K (de_var (i := 0) rfl (.inl rfl)) de_int) (de_bor 2 (de_add G.toGood.K (de_ix G.toGood.K (de_ix G.toGood.K (de_var (i := 2) rfl (.inl rfl)) (de_neg de_int)) de_int) de_int))))))) (dss_one (ds_retO (i := 2) rfl (.inl rfl)))))
/-! ### _law_goes -/
def c__law_goes_1 : Env noObj → R (List D) := (lLc (iSeq (eVar 1)) (gN 6) tYesD (eCall 2 (listR F__law_walk) (aCons (eVar 0) (aCons (eVar 6) aNil))) [6])
def c__law_goes_2 : Env noObj → R (List D) := (lLc (iSeq (eVar 3)) (gN 8) tYesD (eA dLen (aCons (eVar 8) aNil)) [8])
def c__law_goes_3 : Env noObj → R (List D) := (lLc (iSeq (eVar 5)) (gN 7) (tOrD (tNotD (tV (e1 (dIsi "tuple") (eVar 7)))) (tNotD (tV (eCall 1 F__law_whole (aCons (e2 dIx (eVar 7) (eC (.int 1))) aNil))))) (eVar 7) [7])
def g__law_goes_L1 : GS noObj := (gSeq (gOwn 5 (lCall 2 F_walked (aCons (eVar 0) (aCons (e2 dIx (eVar 1) (eVar 4)) aNil)))) (gSeq (gIf (tBor 5 (tOrD (tNotD (tV (e1 (dIsi "list") (eVar 5)))) (tV (e2 dNe (eVar 5) (e2 dIx (eVar 3) (eVar 4)))))) (gRet (eC (.bool false))) gNil) (gSeq (gIf (tBor 5 (tV (e2 dNe (eL c__law_goes_3) (eLst aNil)))) (gRet (eC (.bool false))) gNil) (gSeq (gApp 5 (eC .none)) (gIf (tV (e2 dNe (eCall 2 (listR F_walked) (aCons (eVar 0) (aCons (e2 dIx (eVar 1) (eVar 4)) aNil))) (e2 dIx (eVar 3) (eVar 4)))) (gRet (eC (.bool false))) gNil)))))
def g__law_goes : GS noObj := (gSeq (gSet 2 (eCall 1 (F_length_of 40) (aCons (eVar 0) aNil))) (gSeq (gSet 3 (eL c__law_goes_1)) (gSeq (gIf (tOrD (tNotD (tV (eCall 1 F__law_whole (aCons (eVar 2) aNil)))) (tOrD (tV (e2 dNe (eVar 2) (eA dMax (aCons (eL c__law_goes_2) aNil)))) (tV (e2 dNe (eVar 2) (eCall 1 (F__law_length 40) (aCons (eVar 0) aNil)))))) (gRet (eC (.bool false))) gNil) (gSeq (gFor (iRng1 (aCons (eA dLen (aCons (eVar 1) aNil)) aNil)) (gN 4) g__law_goes_L1) (gRet (eC (.bool true)))))))
def F__law_goes : List D → R D := runF 9 g__law_goes
theorem sc__law_goes : FnScope ["_law_plan", "_law_cases", "_law_size", "_law_walks", "_law_k", "_law_found", "_law_case", "_law_row", "_law_walk_here"] ["_law_plan", "_law_cases"] (defScope (top 46)) := ⟨rfl, rfl, rfl, by decide +kernel, rfl, by decide +kernel, by decide +kernel⟩
theorem df__law_goes (T : TF K mg) : Df P w K mg base (cA K) "_law_goes" 41 2 F__law_goes := by
  obtain ⟨fd, FD⟩ := T.says.def_ 34 (d := dF "_law_goes" 46) rfl
  refine df_mk (B := noObj) (k := 40) (g := g__law_goes) FD sc__law_goes (FD.bindsN fun _ _ _ _ _ _ us hl => match us, hl with | [_, _], _ => rfl) (T.glo 50) fun cdv A outer s H E G => ?_
  exact (dss_cons (ds_set G.toGood.nd rfl (.inl rfl) (de_call G.toGood (df_length_of T 40) (by decide) (da_cons (de_var (i := 0) rfl (.inr (.inl rfl))) da_nil))) (dss_cons (ds_lcSet (ps_lc (own := [("_law_case", 6)]) (i := 3) G.toGood rfl rfl (sw_true rfl rfl rfl (by decide +kernel)) (di_seq G.toGood.K (de_var (i := 1) rfl (.inl rfl))) (blkOk_by (by kernel_rfl)) (fun _ _ _ _ _ => (dg_name (i := 6) G.toGood.nd rfl (.inl rfl))) (by decide) (fun _ _ _ _ _ G1 => dts_nil) (fun _ _ _ _ _ G1 => (de_call G1 (DfS.toD (df__law_walk T)) (by decide) (da_cons (de_var (i := 0) rfl (.inr (.inl rfl))) (da_cons (de_var (i := 6) rfl (.inl rfl)) da_nil)))))) (dss_cons (ds_if (dt_w (dw_or (dt_not (dt_val (de_call G.toGood (df__law_whole T) (by decide) (da_cons (de_var (i := 2) rfl (.inl rfl)) da_nil)))) (dw_or (dt_cmp (cNe G.toGood.room) G.toGood.K (de_var (i := 2) rfl (.inl rfl)) (de_max G.toGood.K G.toGood.calm (T.free 7) (da_cons (de_l (dl_lc (own := [("_law_walk_here", 8)]) G.toGood (di_seq G.toGood.K (de_var (i := 3) rfl (.inl rfl))) (blkOk_by (by kernel_rfl)) (fun _ _ _ _ _ => (dg_name (i := 8) G.toGood.nd rfl (.inl rfl))) (by decide) (fun _ _ _ _ _ G1 => dts_nil) (fun _ _ _ _ _ G1 => (de_len G1.K (T.free 5) (da_cons (de_var (i := 8) rfl (.inl rfl)) da_nil))))) da_nil)) (nomark _)) (dw_or1 (dt_cmp (cNe G.toGood.room) G.toGood.K (de_var (i := 2) rfl (.inl rfl)) (de_call G.toGood (df__law_length T 40) (by decide) (da_cons (de_var (i := 0) rfl (.inr (.inl rfl))) da_nil)) (nomark _)))))) (dss_one (ds_ret de_bl)) dss_nil) (dss_cons (ds_for G (di_range1 (T.free 9) (da_cons (de_len G.toGood.K (T.free 5) (da_cons (de_var (i := 1) rfl (.inl rfl)) da_nil)) da_nil)) (dg_name (i := 4) G.toGood.nd rfl (.inl rfl)) (dss_cons (ds_own G.toGood.nd rfl (.inl rfl) (dl_call G.toGood (df_walked T) (by decide) (da_cons (de_var (i := 0) rfl (.inr (.inl rfl))) (da_cons (de_ix G.toGood.K (de_var (i := 1) rfl (.inl rfl)) (de_var (i := 4) rfl (.inl rfl))) da_nil)))) (dss_cons (ds_if (dt_bor 5 (dt_w (dw_or (dt_not (dt_val (de_isi G.toGood.K (T.free 4) (T.free 6) boot_listT (de_var (i := 5) rfl (.inl rfl))))) (dw_or1 (dt_cmp (cNe G.toGood.room) G.toGood.K (de_var (i := 5) rfl (.inl rfl)) (de_ix G.toGood.K (de_var (i := 3) rfl (.inl rfl)) (de_var (i := 4) rfl (.inl rfl))) (nomark _)))))) (dss_one (ds_ret de_bl)) dss_nil) (dss_cons (ds_if (dt_bor 5 (dt_cmp (cNe G.toGood.room) G.toGood.K (de_l (dl_lc (own := [("_law_row", 7)]) G.toGood (di_seq G.toGood.K (de_var (i := 5) rfl (.inl rfl))) (blkOk_by (by kernel_rfl)) (fun _ _ _ _ _ => (dg_name (i := 7) G.toGood.nd rfl (.inl rfl))) (by decide) (fun _ _ _ _ _ G1 => (dts_one (dt_w (dw_or (dt_not (dt_val (de_isi G1.K (T.free 4) (T.free 14) boot_tupleT (de_var (i := 7) rfl (.inl rfl))))) (dw_or1 (dt_not (dt_val (de_call G1 (df__law_whole T) (by decide) (da_cons (de_ix G1.K (de_var (i := 7) rfl (.inl rfl)) de_int) da_nil))))))))) (fun _ _ _ _ _ G1 => (de_var (i := 7) rfl (.inl rfl))))) (de_lst da_nil) (nomark _))) (dss_one (ds_ret de_bl)) dss_nil) (dss_cons (ds_app (i := 5) rfl (.inl rfl) de_non) (dss_one (ds_if (dt_cmp (cNe G.toGood.room) G.toGood.K (de_call G.toGood (DfS.toD (df_walked T)) (by decide) (da_cons (de_var (i := 0) rfl (.inr (.inl rfl))) (da_cons (de_ix G.toGood.K (de_var (i := 1) rfl (.inl rfl)) (de_var (i := 4) rfl (.inl rfl))) da_nil))) (de_ix G.toGood.K (de_var (i := 3) rfl (.inl rfl)) (de_var (i := 4) rfl (.inl rfl))) (nomark _)) (dss_one (ds_ret de_bl)) dss_nil))))))) (dss_one (ds_ret de_bl))))))
/-! ### law -/
def g_law_L1 : GS noObj := (gSeq (gSet 12 (eCall 3 F_is_plan (aCons (eVar 1) (aCons (eVar 10) (aCons (eVar 5) aNil))))) (gSeq (gIf (tOrD (tNotD (tV (e1 (dIsi "bool") (eVar 12)))) (tOrD (tV (e2 dNe (eVar 12) (eVar 8))) (tOrD (tV (e2 dNe (eVar 10) (eVar 7))) (tV (e2 dNe (eA dStr (aCons (eVar 5) aNil)) (eVar 9)))))) (gRet (eC (.bool false))) gNil) (gSeq (gIf (tV (e2 dIsNot (eCall 3 F_is_plan (aCons (eVar 1) (aCons (eA dList (aCons (eVar 2) aNil)) (aCons (eVar 4) aNil)))) (eC (.bool true)))) (gRet (eC (.bool false))) gNil) (gIf (tV (e2 dIsNot (eCall 3 F_is_plan (aCons (eVar 1) (aCons (eVar 10) (aCons (e2 dIx (eLst (aCons (eC .none) (aCons (eTup aNil) (aCons (eC (.int 5)) (aCons (eC (.str (Str.ofString "told"))) aNil))))) (e2 dMod (e2 dDiv (eVar 6) (eC (.int 16))) (eC (.int 4)))) aNil)))) (eC (.bool false)))) (gRet (eC (.bool false))) gNil))))
def g_law : GS noObj := (gSeq (gTgt (eCall 3 F__law_puzzle (aCons (eVar 0) (aCons (eC (.int 3)) (aCons (eC (.int 5)) aNil)))) (gT 2 (gsC (gN 1) (gsC (gN 2) gsN)))) (gSeq (gSet 3 (eCall 1 (listR F__law_pans) (aCons (eVar 1) aNil))) (gSeq (gSet 2 (eCall 2 (listR F__law_apart) (aCons (eVar 3) (aCons (eVar 2) aNil)))) (gSeq (gSet 4 (eCall 4 (F__law_planned 20) (aCons (eVar 3) (aCons (eVar 2) (aCons (e2 dMod (eCall 2 F__law_mixed (aCons (eVar 0) (aCons (eC (.int 0)) aNil))) (eC (.int 1000003))) (aCons (eC (.int 2)) aNil)))))) (gSeq (gSet 5 (eVar 4)) (gSeq (gSet 6 (eCall 2 F__law_cell_at (aCons (eVar 0) (aCons (eC (.int 1)) aNil)))) (gSeq (gIf (tV (e2 dGt (e2 dMod (eVar 6) (eC (.int 4))) (eC (.int 0)))) (gSet 5 (eCall 4 (F__law_changed 40) (aCons (eVar 4) (aCons (eVar 3) (aCons (eVar 2) (aCons (eCall 2 F__law_mixed (aCons (eVar 0) (aCons (eC (.int 2)) aNil))) aNil)))))) gNil) (gSeq (gSet 7 (eIf (tAndD (tV (e2 dEq (e2 dMod (eVar 6) (eC (.int 16))) (eC (.int 4)))) (tV (e2 dGt (eA dLen (aCons (eVar 2) aNil)) (eC (.int 1))))) (eSl (eVar 2) (oSome (eC (.int 1))) oNone) (eVar 2))) (gSeq (gSet 8 (eCall 3 (F__law_is_plan 40) (aCons (eVar 1) (aCons (eVar 7) (aCons (eVar 5) aNil))))) (gSeq (gSet 9 (eA dStr (aCons (eVar 5) aNil))) (gSeq (gSet 10 (eA dList (aCons (eVar 7) aNil))) (gSeq (gFor (iRng1 (aCons (eC (.int 2)) aNil)) (gN 11) g_law_L1) (gSeq (gIf (tAndD (tV (eVar 8)) (tNotD (tV (eCall 2 F__law_goes (aCons (eVar 5) (aCons (eVar 7) aNil)))))) (gRet (eC (.bool false))) gNil) (gRet (eCall 2 F__law_goes (aCons (eVar 4) (aCons (eVar 2) aNil)))))))))))))))))
def F_law : List D → R D := runF 13 g_law
theorem sc_law : FnScope ["_law_script", "_law_many", "_law_cases", "_law_pans_here", "_law_plan", "_law_thing_here", "_law_way", "_law_asked", "_law_due", "_law_kept", "_law_handed", "_law_turn", "_law_found"] ["_law_script"] (defScope (top 47)) := ⟨rfl, rfl, rfl, by decide +kernel, rfl, by decide +kernel, by decide +kernel⟩
abbrev lawC (P : Program) (w : World) (K : PySem.W.Frag) (mg : Str → Option Value) (base : Heap) (cdv : Value) (A : Around) (outer : List PySem.Env) (s : Shared) (H : Hp) (E : XK) : Cx := bodyC P w K mg base ["_law_script", "_law_many", "_law_cases", "_law_pans_here", "_law_plan", "_law_thing_here", "_law_way", "_law_asked", "_law_due", "_law_kept", "_law_handed", "_law_turn", "_law_found"] (dF "law" 47).qual (dF "law" 47).scope (He.fAd K (dF "law" 47).at_) cdv A outer s H E
theorem body_law (T : TF K mg) {cdv : Value} {A : Around} {outer : List PySem.Env} {s : Shared} {H : Hp} {E : XK} (so : StrOk (lawC P w K mg base cdv A outer s H E)) (G : GoodS (B := noObj) (lawC P w K mg base cdv A outer s H E) ⟨K, cA K, E⟩ 81) : DSs (lawC P w K mg base cdv A outer s H E) ⟨K, cA K, E⟩ (dF "law" 47).body g_law := by
  exact (dss_cons (ds_tgt G.toGood.K (de_call G.toGood (df__law_puzzle T) (by decide) (da_cons (de_var (i := 0) rfl (.inl rfl)) (da_cons de_int (da_cons de_int da_nil)))) (dg_tup G.toGood.calm (dgs_cons (dg_name (i := 1) G.toGood.nd rfl (.inl rfl)) (dgs_cons (dg_name (i := 2) G.toGood.nd rfl (.inl rfl)) dgs_nil)))) (dss_cons (ds_set G.toGood.nd rfl (.inl rfl) (de_call G.toGood (DfS.toD (df__law_pans T)) (by decide) (da_cons (de_var (i := 1) rfl (.inl rfl)) da_nil))) (dss_cons (ds_set G.toGood.nd rfl (.inl rfl) (de_call G.toGood (DfS.toD (df__law_apart T)) (by decide) (da_cons (de_var (i := 3) rfl (.inl rfl)) (da_cons (de_var (i := 2) rfl (.inl rfl)) da_nil)))) (dss_cons (ds_set G.toGood.nd rfl (.inl rfl) (de_call G.toGood (df__law_planned T 20) (by decide) (da_cons (de_var (i := 3) rfl (.inl rfl)) (da_cons (de_var (i := 2) rfl (.inl rfl)) (da_cons (de_mod (de_call G.toGood (df__law_mixed T) (by decide) (da_cons (de_var (i := 0) rfl (.inl rfl)) (da_cons de_int da_nil))) de_int) (da_cons de_int da_nil)))))) (dss_cons (ds_set G.toGood.nd rfl (.inl rfl) (de_var (i := 4) rfl (.inl rfl))) (dss_cons (ds_set G.toGood.nd rfl (.inl rfl) (de_call G.toGood (df__law_cell_at T) (by decide) (da_cons (de_var (i := 0) rfl (.inl rfl)) (da_cons de_int da_nil)))) (dss_cons (ds_if (dt_cmp cGt G.toGood.K (de_mod (de_var (i := 6) rfl (.inl rfl)) de_int) de_int (nomark _)) (dss_one (ds_set G.toGood.nd rfl (.inl rfl) (de_call G.toGood (df__law_changed T 40) (by decide) (da_cons (de_var (i := 4) rfl (.inl rfl)) (da_cons (de_var (i := 3) rfl (.inl rfl)) (da_cons (de_var (i := 2) rfl (.inl rfl)) (da_cons (de_call G.toGood (df__law_mixed T) (by decide) (da_cons (de_var (i := 0) rfl (.inl rfl)) (da_cons de_int da_nil))) da_nil))))))) dss_nil) (dss_cons (ds_set G.toGood.nd rfl (.inl rfl) (de_if (dt_w (dw_and (dt_cmp (cEq G.toGood.room) G.toGood.K (de_mod (de_var (i := 6) rfl (.inl rfl)) de_int) de_int (nomark _)) (dw_and1 (dt_cmp cGt G.toGood.K (de_len G.toGood.K (T.free 5) (da_cons (de_var (i := 2) rfl (.inl rfl)) da_nil)) de_int (nomark _))))) (de_sl G.toGood.K (de_var (i := 2) rfl (.inl rfl)) (do_some de_int) do_none) (de_var (i := 2) rfl (.inl rfl)))) (dss_cons (ds_set G.toGood.nd rfl (.inl rfl) (de_call G.toGood (df__law_is_plan T 40) (by decide) (da_cons (de_var (i := 1) rfl (.inl rfl)) (da_cons (de_var (i := 7) rfl (.inl rfl)) (da_cons (de_var (i := 5) rfl (.inl rfl)) da_nil))))) (dss_cons (ds_set G.toGood.nd rfl (.inl rfl) (de_strc G.toGood so (T.free 12) (da_cons (de_var (i := 5) rfl (.inl rfl)) da_nil))) (dss_cons (ds_set G.toGood.nd rfl (.inl rfl) (de_list G.toGood.K (T.free 6) (da_cons (de_var (i := 7) rfl (.inl rfl)) da_nil))) (dss_cons (ds_for G (di_range1 (T.free 9) (da_cons de_int da_nil)) (dg_name (i := 11) G.toGood.nd rfl (.inl rfl)) (dss_cons (ds_set G.toGood.nd rfl (.inl rfl) (de_call G.toGood (df_is_plan T) (by decide) (da_cons (de_var (i := 1) rfl (.inl rfl)) (da_cons (de_var (i := 10) rfl (.inl rfl)) (da_cons (de_var (i := 5) rfl (.inl rfl)) da_nil))))) (dss_cons (ds_if (dt_w (dw_or (dt_not (dt_val (de_isi G.toGood.K (T.free 4) (T.free 1) boot_boolT (de_var (i := 12) rfl (.inl rfl))))) (dw_or (dt_cmp (cNe G.toGood.room) G.toGood.K (de_var (i := 12) rfl (.inl rfl)) (de_var (i := 8) rfl (.inl rfl)) (nomark _)) (dw_or (dt_cmp (cNe G.toGood.room) G.toGood.K (de_var (i := 10) rfl (.inl rfl)) (de_var (i := 7) rfl (.inl rfl)) (nomark _)) (dw_or1 (dt_cmp (cNe G.toGood.room) G.toGood.K (de_strc G.toGood so (T.free 12) (da_cons (de_var (i := 5) rfl (.inl rfl)) da_nil)) (de_var (i := 9) rfl (.inl rfl)) (nomark _))))))) (dss_one (ds_ret de_bl)) dss_nil) (dss_cons (ds_if (dt_cmp cIsNot G.toGood.K (de_call G.toGood (df_is_plan T) (by decide) (da_cons (de_var (i := 1) rfl (.inl rfl)) (da_cons (de_list G.toGood.K (T.free 6) (da_cons (de_var (i := 2) rfl (.inl rfl)) da_nil)) (da_cons (de_var (i := 4) rfl (.inl rfl)) da_nil)))) de_bl (nomark _)) (dss_one (ds_ret de_bl)) dss_nil) (dss_one (ds_if (dt_cmp cIsNot G.toGood.K (de_call G.toGood (df_is_plan T) (by decide) (da_cons (de_var (i := 1) rfl (.inl rfl)) (da_cons (de_var (i := 10) rfl (.inl rfl)) (da_cons (de_ix G.toGood.K (de_lst (da_cons de_non (da_cons (de_tup da_nil) (da_cons de_int (da_cons de_str da_nil))))) (de_mod (de_div (de_var (i := 6) rfl (.inl rfl)) de_int) de_int)) da_nil)))) de_bl (nomark _)) (dss_one (ds_ret de_bl)) dss_nil)))))) (dss_cons (ds_if (dt_w (dw_and (dt_val (de_var (i := 8) rfl (.inl rfl))) (dw_and1 (dt_not (dt_val (de_call G.toGood (df__law_goes T) (by decide) (da_cons (de_var (i := 5) rfl (.inl rfl)) (da_cons (de_var (i := 7) rfl (.inl rfl)) da_nil)))))))) (dss_one (ds_ret de_bl)) dss_nil) (dss_one (ds_ret (de_call G.toGood (df__law_goes T) (by decide) (da_cons (de_var (i := 4) rfl (.inl rfl)) (da_cons (de_var (i := 2) rfl (.inl rfl)) da_nil))))))))))))))))))
end W

set_option Elab.async false
set_option linter.all false
set_option maxRecDepth 100000
set_option maxHeartbeats 1000000
namespace W
open PySem PL
/-! ### is_among, need_many -/
def amongB (a b : Int) : D → Bool
  | .int z => decide (a ≤ z) && decide (z ≤ b)
  | _ => false
theorem F_is_among_eq (t : D) (h : tyD t ≠ none) (a b : Int) : F_is_among [t, .int a, .int b] = .ok (.bool (amongB a b t)) := by
  unfold F_is_among g_is_among
  simp only [dIx_t0, dIx_t1, dIx_l0, dIx_l1, toItems, itemsOf, runF, runL, startE, endF, endL, R.bind_ok, R.bind_exc, R.bind_stuck, gSeq, gIf, gSet, gOwn, gRet, gRetL, gRetO, gDrop, gTgt, gT, gsC, gsN, gN, gFor, gApp, gExt, gFrz, gNil, gExc, eVar, eC, e1, e2, eA, aNil, aCons, eTup, eLst, eCall, lCall, listR, eChain, tV, tAndD, tOrD, tNotD, eAnd, eOr, eNot, eIf, eL, lDisp, lList, lRep, oNone, oSome, eSl, iSeq, iRng1, iRng2, iZipD, iEnumD, iRevD, lListRange, lLc, eSorted, eSortSet, eLenSet, eBor, tBor, tYesD, noE, toB, dCmp, dSub, dNeg, dInt, dLen, dIs, dIsNot, List.map_cons, List.map_nil, List.length_cons, List.length_nil, Nat.reduceAdd, Nat.reduceSub, Nat.reduceLeDiff, List.replicate, List.cons_append, List.nil_append, List.append_nil, List.getElem?_cons_zero, List.getElem?_cons_succ, List.set_cons_zero, List.set_cons_succ, if_true, if_false, reduceIte, Bool.not_true, Bool.not_false, Bool.false_eq_true, reduceCtorEq, isi_int t h, isi_bool t h]
  cases t
  case int z => by_cases h1 : a ≤ z <;> simp only [dIx_t0, dIx_t1, dIx_l0, dIx_l1, toItems, itemsOf, runF, runL, startE, endF, endL, R.bind_ok, R.bind_exc, R.bind_stuck, gSeq, gIf, gSet, gOwn, gRet, gRetL, gRetO, gDrop, gTgt, gT, gsC, gsN, gN, gFor, gApp, gExt, gFrz, gNil, gExc, eVar, eC, e1, e2, eA, aNil, aCons, eTup, eLst, eCall, lCall, listR, eChain, tV, tAndD, tOrD, tNotD, eAnd, eOr, eNot, eIf, eL, lDisp, lList, lRep, oNone, oSome, eSl, iSeq, iRng1, iRng2, iZipD, iEnumD, iRevD, lListRange, lLc, eSorted, eSortSet, eLenSet, eBor, tBor, tYesD, noE, toB, dCmp, dSub, dNeg, dInt, dLen, dIs, dIsNot, List.map_cons, List.map_nil, List.length_cons, List.length_nil, Nat.reduceAdd, Nat.reduceSub, Nat.reduceLeDiff, List.replicate, List.cons_append, List.nil_append, List.append_nil, List.getElem?_cons_zero, List.getElem?_cons_succ, List.set_cons_zero, List.set_cons_succ, if_true, if_false, reduceIte, Bool.not_true, Bool.not_false, Bool.false_eq_true, reduceCtorEq, amongB, h1, decide_true, decide_false, Bool.true_and, Bool.false_and]
  all_goals simp only [dIx_t0, dIx_t1, dIx_l0, dIx_l1, toItems, itemsOf, runF, runL, startE, endF, endL, R.bind_ok, R.bind_exc, R.bind_stuck, gSeq, gIf, gSet, gOwn, gRet, gRetL, gRetO, gDrop, gTgt, gT, gsC, gsN, gN, gFor, gApp, gExt, gFrz, gNil, gExc, eVar, eC, e1, e2, eA, aNil, aCons, eTup, eLst, eCall, lCall, listR, eChain, tV, tAndD, tOrD, tNotD, eAnd, eOr, eNot, eIf, eL, lDisp, lList, lRep, oNone, oSome, eSl, iSeq, iRng1, iRng2, iZipD, iEnumD, iRevD, lListRange, lLc, eSorted, eSortSet, eLenSet, eBor, tBor, tYesD, noE, toB, dCmp, dSub, dNeg, dInt, dLen, dIs, dIsNot, List.map_cons, List.map_nil, List.length_cons, List.length_nil, Nat.reduceAdd, Nat.reduceSub, Nat.reduceLeDiff, List.replicate, List.cons_append, List.nil_append, List.append_nil, List.getElem?_cons_zero, List.getElem?_cons_succ, List.set_cons_zero, List.set_cons_succ, if_true, if_false, reduceIte, Bool.not_true, Bool.not_false, Bool.false_eq_true, reduceCtorEq, amongB]
theorem F_need_many_eq (t : D) (h : tyD t ≠ none) : F_need_many [t] = if amongB 2 5 t = true then .ok .none else .exc 1 := by
  unfold F_need_many g_need_many
  simp only [dIx_t0, dIx_t1, dIx_l0, dIx_l1, toItems, itemsOf, runF, runL, startE, endF, endL, R.bind_ok, R.bind_exc, R.bind_stuck, gSeq, gIf, gSet, gOwn, gRet, gRetL, gRetO, gDrop, gTgt, gT, gsC, gsN, gN, gFor, gApp, gExt, gFrz, gNil, gExc, eVar, eC, e1, e2, eA, aNil, aCons, eTup, eLst, eCall, lCall, listR, eChain, tV, tAndD, tOrD, tNotD, eAnd, eOr, eNot, eIf, eL, lDisp, lList, lRep, oNone, oSome, eSl, iSeq, iRng1, iRng2, iZipD, iEnumD, iRevD, lListRange, lLc, eSorted, eSortSet, eLenSet, eBor, tBor, tYesD, noE, toB, dCmp, dSub, dNeg, dInt, dLen, dIs, dIsNot, List.map_cons, List.map_nil, List.length_cons, List.length_nil, Nat.reduceAdd, Nat.reduceSub, Nat.reduceLeDiff, List.replicate, List.cons_append, List.nil_append, List.append_nil, List.getElem?_cons_zero, List.getElem?_cons_succ, List.set_cons_zero, List.set_cons_succ, if_true, if_false, reduceIte, Bool.not_true, Bool.not_false, Bool.false_eq_true, reduceCtorEq, F_is_among_eq t h]
  cases amongB 2 5 t <;> simp only [dIx_t0, dIx_t1, dIx_l0, dIx_l1, toItems, itemsOf, runF, runL, startE, endF, endL, R.bind_ok, R.bind_exc, R.bind_stuck, gSeq, gIf, gSet, gOwn, gRet, gRetL, gRetO, gDrop, gTgt, gT, gsC, gsN, gN, gFor, gApp, gExt, gFrz, gNil, gExc, eVar, eC, e1, e2, eA, aNil, aCons, eTup, eLst, eCall, lCall, listR, eChain, tV, tAndD, tOrD, tNotD, eAnd, eOr, eNot, eIf, eL, lDisp, lList, lRep, oNone, oSome, eSl, iSeq, iRng1, iRng2, iZipD, iEnumD, iRevD, lListRange, lLc, eSorted, eSortSet, eLenSet, eBor, tBor, tYesD, noE, toB, dCmp, dSub, dNeg, dInt, dLen, dIs, dIsNot, List.map_cons, List.map_nil, List.length_cons, List.length_nil, Nat.reduceAdd, Nat.reduceSub, Nat.reduceLeDiff, List.replicate, List.cons_append, List.nil_append, List.append_nil, List.getElem?_cons_zero, List.getElem?_cons_succ, List.set_cons_zero, List.set_cons_succ, if_true, if_false, reduceIte, Bool.not_true, Bool.not_false, Bool.false_eq_true, reduceCtorEq]
theorem map_bool_all {α : Type} (p : α → Bool) (xs : List α) : dAll [.list (xs.map fun x => PyData.bool (p x))] = .ok (.bool (xs.all p)) := by
  have e : (xs.map fun x => PyData.bool (p x)) = (xs.map p).map PyData.bool := by rw [List.map_map]; rfl
  rw [e]
  simp only [dAll, boolsOf_map, List.all_map]
  rfl
theorem all_among {a b : Int} {xs : List D} (h : xs.all (amongB a b) = true) : ∃ ns : List Int, xs = ns.map PyData.int ∧ ∀ z ∈ ns, a ≤ z ∧ z ≤ b := by
  induction xs with
  | nil => exact ⟨[], rfl, by simp⟩
  | cons x r ih =>
    rw [List.all_cons, Bool.and_eq_true] at h
    obtain ⟨ns, rfl, h2⟩ := ih h.2
    cases x with
    | int z => exact ⟨z :: ns, rfl, fun y hy => (List.mem_cons.mp hy).elim (fun e => by subst e; simpa [amongB] using h.1) (h2 y)⟩
    | _ => simp [amongB] at h
/-! ### is_case, need_cases -/
def isCaseB (m : Int) : D → Bool
  | .tuple xs => decide ((xs.length : Int) = m) && xs.all (amongB (-1) 1)
  | _ => false
theorem c_case (m : Int) (xs : List D) (hx : ∀ x ∈ xs, tyD x ≠ none) (hl : xs.length ≤ 100000) : c_is_case_1 [.val (.int m), .val (.tuple xs), .no] = .ok (xs.map fun x => .bool (amongB (-1) 1 x)) := by
  unfold c_is_case_1
  simp only [dIx_t0, dIx_t1, dIx_l0, dIx_l1, toItems, itemsOf, runF, runL, startE, endF, endL, R.bind_ok, R.bind_exc, R.bind_stuck, gSeq, gIf, gSet, gOwn, gRet, gRetL, gRetO, gDrop, gTgt, gT, gsC, gsN, gN, gFor, gApp, gExt, gFrz, gNil, gExc, eVar, eC, e1, e2, eA, aNil, aCons, eTup, eLst, eCall, lCall, listR, eChain, tV, tAndD, tOrD, tNotD, eAnd, eOr, eNot, eIf, eL, lDisp, lList, lRep, oNone, oSome, eSl, iSeq, iRng1, iRng2, iZipD, iEnumD, iRevD, lListRange, lLc, eSorted, eSortSet, eLenSet, eBor, tBor, tYesD, noE, toB, dCmp, dSub, dNeg, dInt, dLen, dIs, dIsNot, List.map_cons, List.map_nil, List.length_cons, List.length_nil, Nat.reduceAdd, Nat.reduceSub, Nat.reduceLeDiff, List.replicate, List.cons_append, List.nil_append, List.append_nil, List.getElem?_cons_zero, List.getElem?_cons_succ, List.set_cons_zero, List.set_cons_succ, if_true, if_false, reduceIte, Bool.not_true, Bool.not_false, Bool.false_eq_true, reduceCtorEq]
  rw [if_pos ⟨hl, rfl⟩]
  rw [eachR_map (f := fun x => .bool (amongB (-1) 1 x))]
  intro x h
  unfold lcStep
  simp only [dIx_t0, dIx_t1, dIx_l0, dIx_l1, toItems, itemsOf, runF, runL, startE, endF, endL, R.bind_ok, R.bind_exc, R.bind_stuck, gSeq, gIf, gSet, gOwn, gRet, gRetL, gRetO, gDrop, gTgt, gT, gsC, gsN, gN, gFor, gApp, gExt, gFrz, gNil, gExc, eVar, eC, e1, e2, eA, aNil, aCons, eTup, eLst, eCall, lCall, listR, eChain, tV, tAndD, tOrD, tNotD, eAnd, eOr, eNot, eIf, eL, lDisp, lList, lRep, oNone, oSome, eSl, iSeq, iRng1, iRng2, iZipD, iEnumD, iRevD, lListRange, lLc, eSorted, eSortSet, eLenSet, eBor, tBor, tYesD, noE, toB, dCmp, dSub, dNeg, dInt, dLen, dIs, dIsNot, List.map_cons, List.map_nil, List.length_cons, List.length_nil, Nat.reduceAdd, Nat.reduceSub, Nat.reduceLeDiff, List.replicate, List.cons_append, List.nil_append, List.append_nil, List.getElem?_cons_zero, List.getElem?_cons_succ, List.set_cons_zero, List.set_cons_succ, if_true, if_false, reduceIte, Bool.not_true, Bool.not_false, Bool.false_eq_true, reduceCtorEq, wipeE, Int.reduceNeg, F_is_among_eq x (hx x h)]
/-- what may be asked about -/
def askD (t : D) : Prop := tyD t ≠ none ∧ ∀ xs, t = .tuple xs → (∀ x ∈ xs, tyD x ≠ none) ∧ xs.length ≤ 100000
theorem F_is_case_eq (m : Int) (t : D) (h : askD t) : F_is_case [.int m, t] = .ok (.bool (isCaseB m t)) := by
  unfold F_is_case g_is_case
  simp only [dIx_t0, dIx_t1, dIx_l0, dIx_l1, toItems, itemsOf, runF, runL, startE, endF, endL, R.bind_ok, R.bind_exc, R.bind_stuck, gSeq, gIf, gSet, gOwn, gRet, gRetL, gRetO, gDrop, gTgt, gT, gsC, gsN, gN, gFor, gApp, gExt, gFrz, gNil, gExc, eVar, eC, e1, e2, eA, aNil, aCons, eTup, eLst, eCall, lCall, listR, eChain, tV, tAndD, tOrD, tNotD, eAnd, eOr, eNot, eIf, eL, lDisp, lList, lRep, oNone, oSome, eSl, iSeq, iRng1, iRng2, iZipD, iEnumD, iRevD, lListRange, lLc, eSorted, eSortSet, eLenSet, eBor, tBor, tYesD, noE, toB, dCmp, dSub, dNeg, dInt, dLen, dIs, dIsNot, List.map_cons, List.map_nil, List.length_cons, List.length_nil, Nat.reduceAdd, Nat.reduceSub, Nat.reduceLeDiff, List.replicate, List.cons_append, List.nil_append, List.append_nil, List.getElem?_cons_zero, List.getElem?_cons_succ, List.set_cons_zero, List.set_cons_succ, if_true, if_false, reduceIte, Bool.not_true, Bool.not_false, Bool.false_eq_true, reduceCtorEq, isi_tuple t h.1]
  cases t
  case tuple xs =>
    obtain ⟨hx, hl⟩ := h.2 xs rfl
    simp only [dIx_t0, dIx_t1, dIx_l0, dIx_l1, toItems, itemsOf, runF, runL, startE, endF, endL, R.bind_ok, R.bind_exc, R.bind_stuck, gSeq, gIf, gSet, gOwn, gRet, gRetL, gRetO, gDrop, gTgt, gT, gsC, gsN, gN, gFor, gApp, gExt, gFrz, gNil, gExc, eVar, eC, e1, e2, eA, aNil, aCons, eTup, eLst, eCall, lCall, listR, eChain, tV, tAndD, tOrD, tNotD, eAnd, eOr, eNot, eIf, eL, lDisp, lList, lRep, oNone, oSome, eSl, iSeq, iRng1, iRng2, iZipD, iEnumD, iRevD, lListRange, lLc, eSorted, eSortSet, eLenSet, eBor, tBor, tYesD, noE, toB, dCmp, dSub, dNeg, dInt, dLen, dIs, dIsNot, List.map_cons, List.map_nil, List.length_cons, List.length_nil, Nat.reduceAdd, Nat.reduceSub, Nat.reduceLeDiff, List.replicate, List.cons_append, List.nil_append, List.append_nil, List.getElem?_cons_zero, List.getElem?_cons_succ, List.set_cons_zero, List.set_cons_succ, if_true, if_false, reduceIte, Bool.not_true, Bool.not_false, Bool.false_eq_true, reduceCtorEq, dNe_int]
    by_cases hm : (xs.length : Int) = m
    · simp only [dIx_t0, dIx_t1, dIx_l0, dIx_l1, toItems, itemsOf, runF, runL, startE, endF, endL, R.bind_ok, R.bind_exc, R.bind_stuck, gSeq, gIf, gSet, gOwn, gRet, gRetL, gRetO, gDrop, gTgt, gT, gsC, gsN, gN, gFor, gApp, gExt, gFrz, gNil, gExc, eVar, eC, e1, e2, eA, aNil, aCons, eTup, eLst, eCall, lCall, listR, eChain, tV, tAndD, tOrD, tNotD, eAnd, eOr, eNot, eIf, eL, lDisp, lList, lRep, oNone, oSome, eSl, iSeq, iRng1, iRng2, iZipD, iEnumD, iRevD, lListRange, lLc, eSorted, eSortSet, eLenSet, eBor, tBor, tYesD, noE, toB, dCmp, dSub, dNeg, dInt, dLen, dIs, dIsNot, List.map_cons, List.map_nil, List.length_cons, List.length_nil, Nat.reduceAdd, Nat.reduceSub, Nat.reduceLeDiff, List.replicate, List.cons_append, List.nil_append, List.append_nil, List.getElem?_cons_zero, List.getElem?_cons_succ, List.set_cons_zero, List.set_cons_succ, if_true, if_false, reduceIte, Bool.not_true, Bool.not_false, Bool.false_eq_true, reduceCtorEq, decide_eq_true hm, c_case m xs hx hl, map_bool_all, isCaseB, Bool.true_and]
    · simp only [dIx_t0, dIx_t1, dIx_l0, dIx_l1, toItems, itemsOf, runF, runL, startE, endF, endL, R.bind_ok, R.bind_exc, R.bind_stuck, gSeq, gIf, gSet, gOwn, gRet, gRetL, gRetO, gDrop, gTgt, gT, gsC, gsN, gN, gFor, gApp, gExt, gFrz, gNil, gExc, eVar, eC, e1, e2, eA, aNil, aCons, eTup, eLst, eCall, lCall, listR, eChain, tV, tAndD, tOrD, tNotD, eAnd, eOr, eNot, eIf, eL, lDisp, lList, lRep, oNone, oSome, eSl, iSeq, iRng1, iRng2, iZipD, iEnumD, iRevD, lListRange, lLc, eSorted, eSortSet, eLenSet, eBor, tBor, tYesD, noE, toB, dCmp, dSub, dNeg, dInt, dLen, dIs, dIsNot, List.map_cons, List.map_nil, List.length_cons, List.length_nil, Nat.reduceAdd, Nat.reduceSub, Nat.reduceLeDiff, List.replicate, List.cons_append, List.nil_append, List.append_nil, List.getElem?_cons_zero, List.getElem?_cons_succ, List.set_cons_zero, List.set_cons_succ, if_true, if_false, reduceIte, Bool.not_true, Bool.not_false, Bool.false_eq_true, reduceCtorEq, decide_eq_false hm, isCaseB, Bool.false_and]
  all_goals simp only [dIx_t0, dIx_t1, dIx_l0, dIx_l1, toItems, itemsOf, runF, runL, startE, endF, endL, R.bind_ok, R.bind_exc, R.bind_stuck, gSeq, gIf, gSet, gOwn, gRet, gRetL, gRetO, gDrop, gTgt, gT, gsC, gsN, gN, gFor, gApp, gExt, gFrz, gNil, gExc, eVar, eC, e1, e2, eA, aNil, aCons, eTup, eLst, eCall, lCall, listR, eChain, tV, tAndD, tOrD, tNotD, eAnd, eOr, eNot, eIf, eL, lDisp, lList, lRep, oNone, oSome, eSl, iSeq, iRng1, iRng2, iZipD, iEnumD, iRevD, lListRange, lLc, eSorted, eSortSet, eLenSet, eBor, tBor, tYesD, noE, toB, dCmp, dSub, dNeg, dInt, dLen, dIs, dIsNot, List.map_cons, List.map_nil, List.length_cons, List.length_nil, Nat.reduceAdd, Nat.reduceSub, Nat.reduceLeDiff, List.replicate, List.cons_append, List.nil_append, List.append_nil, List.getElem?_cons_zero, List.getElem?_cons_succ, List.set_cons_zero, List.set_cons_succ, if_true, if_false, reduceIte, Bool.not_true, Bool.not_false, Bool.false_eq_true, reduceCtorEq, isCaseB]
theorem isCaseB_sh {m : Int} {t : D} (h : isCaseB m t = true) : sh 1 t ∧ exact t = true := by
  cases t with
  | tuple xs =>
    simp only [isCaseB, Bool.and_eq_true] at h
    obtain ⟨ns, rfl, _⟩ := all_among h.2
    exact ⟨sh_tuple (sh_ints _), by simpa [exact] using exact_ints ns⟩
  | _ => simp [isCaseB] at h
def goodFrom (m : Int) : List D → List D → Bool
  | _, [] => true
  | pre, x :: r => isCaseB m x && !(pre.any fun z => PyData.eqv z x) && goodFrom m (pre ++ [x]) r
theorem cutD_take (xs : List D) (k : Nat) (h : k ≤ xs.length) : cutD xs none (some (k : Int)) = xs.take k := by
  unfold cutD
  rw [HT.sIx_none, HT.sIx_nat, Nat.min_eq_left h]
  rfl
theorem cases_step (m : Int) (full : List D) (k : Nat) (z : D) (hz : askD z) (hk : k ≤ full.length) (hp : ∀ x ∈ full.take k, isCaseB m x = true) :
    g_need_cases_L1 [.val (.int m), .val (.list full), .val (.int k), .val z] =
      if (isCaseB m z && !((full.take k).any fun y => PyData.eqv y z)) = true then .ok (.nx, [.val (.int m), .val (.list full), .val (.int k), .val z]) else .exc 2 := by
  unfold g_need_cases_L1
  simp only [dIx_t0, dIx_t1, dIx_l0, dIx_l1, toItems, itemsOf, runF, runL, startE, endF, endL, R.bind_ok, R.bind_exc, R.bind_stuck, gSeq, gIf, gSet, gOwn, gRet, gRetL, gRetO, gDrop, gTgt, gT, gsC, gsN, gN, gFor, gApp, gExt, gFrz, gNil, gExc, eVar, eC, e1, e2, eA, aNil, aCons, eTup, eLst, eCall, lCall, listR, eChain, tV, tAndD, tOrD, tNotD, eAnd, eOr, eNot, eIf, eL, lDisp, lList, lRep, oNone, oSome, eSl, iSeq, iRng1, iRng2, iZipD, iEnumD, iRevD, lListRange, lLc, eSorted, eSortSet, eLenSet, eBor, tBor, tYesD, noE, toB, dCmp, dSub, dNeg, dInt, dLen, dIs, dIsNot, List.map_cons, List.map_nil, List.length_cons, List.length_nil, Nat.reduceAdd, Nat.reduceSub, Nat.reduceLeDiff, List.replicate, List.cons_append, List.nil_append, List.append_nil, List.getElem?_cons_zero, List.getElem?_cons_succ, List.set_cons_zero, List.set_cons_succ, if_true, if_false, reduceIte, Bool.not_true, Bool.not_false, Bool.false_eq_true, reduceCtorEq, F_is_case_eq m z hz, dSl, cutD_take full k hk, dIn]
  cases h1 : isCaseB m z
  · simp only [dIx_t0, dIx_t1, dIx_l0, dIx_l1, toItems, itemsOf, runF, runL, startE, endF, endL, R.bind_ok, R.bind_exc, R.bind_stuck, gSeq, gIf, gSet, gOwn, gRet, gRetL, gRetO, gDrop, gTgt, gT, gsC, gsN, gN, gFor, gApp, gExt, gFrz, gNil, gExc, eVar, eC, e1, e2, eA, aNil, aCons, eTup, eLst, eCall, lCall, listR, eChain, tV, tAndD, tOrD, tNotD, eAnd, eOr, eNot, eIf, eL, lDisp, lList, lRep, oNone, oSome, eSl, iSeq, iRng1, iRng2, iZipD, iEnumD, iRevD, lListRange, lLc, eSorted, eSortSet, eLenSet, eBor, tBor, tYesD, noE, toB, dCmp, dSub, dNeg, dInt, dLen, dIs, dIsNot, List.map_cons, List.map_nil, List.length_cons, List.length_nil, Nat.reduceAdd, Nat.reduceSub, Nat.reduceLeDiff, List.replicate, List.cons_append, List.nil_append, List.append_nil, List.getElem?_cons_zero, List.getElem?_cons_succ, List.set_cons_zero, List.set_cons_succ, if_true, if_false, reduceIte, Bool.not_true, Bool.not_false, Bool.false_eq_true, reduceCtorEq, Bool.false_and]
  · have s1 : SeqAt.shaped z = true := shaped_sh (isCaseB_sh h1).1
    have s2 : SeqAt.shaped (.list (full.take k)) = true := shaped_sh (sh_list fun x hx => (isCaseB_sh (hp x hx)).1)
    simp only [dIx_t0, dIx_t1, dIx_l0, dIx_l1, toItems, itemsOf, runF, runL, startE, endF, endL, R.bind_ok, R.bind_exc, R.bind_stuck, gSeq, gIf, gSet, gOwn, gRet, gRetL, gRetO, gDrop, gTgt, gT, gsC, gsN, gN, gFor, gApp, gExt, gFrz, gNil, gExc, eVar, eC, e1, e2, eA, aNil, aCons, eTup, eLst, eCall, lCall, listR, eChain, tV, tAndD, tOrD, tNotD, eAnd, eOr, eNot, eIf, eL, lDisp, lList, lRep, oNone, oSome, eSl, iSeq, iRng1, iRng2, iZipD, iEnumD, iRevD, lListRange, lLc, eSorted, eSortSet, eLenSet, eBor, tBor, tYesD, noE, toB, dCmp, dSub, dNeg, dInt, dLen, dIs, dIsNot, List.map_cons, List.map_nil, List.length_cons, List.length_nil, Nat.reduceAdd, Nat.reduceSub, Nat.reduceLeDiff, List.replicate, List.cons_append, List.nil_append, List.append_nil, List.getElem?_cons_zero, List.getElem?_cons_succ, List.set_cons_zero, List.set_cons_succ, if_true, if_false, reduceIte, Bool.not_true, Bool.not_false, Bool.false_eq_true, reduceCtorEq, s1, s2, Bool.and_self, Bool.true_and]
    cases (full.take k).any fun y => PyData.eqv y z <;> simp only [dIx_t0, dIx_t1, dIx_l0, dIx_l1, toItems, itemsOf, runF, runL, startE, endF, endL, R.bind_ok, R.bind_exc, R.bind_stuck, gSeq, gIf, gSet, gOwn, gRet, gRetL, gRetO, gDrop, gTgt, gT, gsC, gsN, gN, gFor, gApp, gExt, gFrz, gNil, gExc, eVar, eC, e1, e2, eA, aNil, aCons, eTup, eLst, eCall, lCall, listR, eChain, tV, tAndD, tOrD, tNotD, eAnd, eOr, eNot, eIf, eL, lDisp, lList, lRep, oNone, oSome, eSl, iSeq, iRng1, iRng2, iZipD, iEnumD, iRevD, lListRange, lLc, eSorted, eSortSet, eLenSet, eBor, tBor, tYesD, noE, toB, dCmp, dSub, dNeg, dInt, dLen, dIs, dIsNot, List.map_cons, List.map_nil, List.length_cons, List.length_nil, Nat.reduceAdd, Nat.reduceSub, Nat.reduceLeDiff, List.replicate, List.cons_append, List.nil_append, List.append_nil, List.getElem?_cons_zero, List.getElem?_cons_succ, List.set_cons_zero, List.set_cons_succ, if_true, if_false, reduceIte, Bool.not_true, Bool.not_false, Bool.false_eq_true, reduceCtorEq]
theorem cases_loop (m : Int) (full : List D) : ∀ (suf : List D) (k : Nat) (s2 s3 : PL.Slot noObj), full.drop k = suf → k ≤ full.length → (∀ x ∈ suf, askD x) → (∀ x ∈ full.take k, isCaseB m x = true) →
    ∃ s2' s3', loopF (gT 2 (gsC (gN 2) (gsC (gN 3) gsN))) g_need_cases_L1 (enumFrom k suf) [.val (.int m), .val (.list full), s2, s3] =
      if goodFrom m (full.take k) suf = true then .ok (.nx, [.val (.int m), .val (.list full), s2', s3']) else .exc 2
  | [], k, s2, s3, _, _, _, _ => ⟨s2, s3, by simp only [dIx_t0, dIx_t1, dIx_l0, dIx_l1, toItems, itemsOf, runF, runL, startE, endF, endL, R.bind_ok, R.bind_exc, R.bind_stuck, gSeq, gIf, gSet, gOwn, gRet, gRetL, gRetO, gDrop, gTgt, gT, gsC, gsN, gN, gFor, gApp, gExt, gFrz, gNil, gExc, eVar, eC, e1, e2, eA, aNil, aCons, eTup, eLst, eCall, lCall, listR, eChain, tV, tAndD, tOrD, tNotD, eAnd, eOr, eNot, eIf, eL, lDisp, lList, lRep, oNone, oSome, eSl, iSeq, iRng1, iRng2, iZipD, iEnumD, iRevD, lListRange, lLc, eSorted, eSortSet, eLenSet, eBor, tBor, tYesD, noE, toB, dCmp, dSub, dNeg, dInt, dLen, dIs, dIsNot, List.map_cons, List.map_nil, List.length_cons, List.length_nil, Nat.reduceAdd, Nat.reduceSub, Nat.reduceLeDiff, List.replicate, List.cons_append, List.nil_append, List.append_nil, List.getElem?_cons_zero, List.getElem?_cons_succ, List.set_cons_zero, List.set_cons_succ, if_true, if_false, reduceIte, Bool.not_true, Bool.not_false, Bool.false_eq_true, reduceCtorEq, loopF, enumFrom, goodFrom]⟩
  | z :: suf, k, s2, s3, hf, hk, ha, hp => by
    have hlt : k < full.length := by
      by_cases h : k < full.length
      · exact h
      · rw [List.drop_eq_nil_of_le (by omega)] at hf; cases hf
    have hk' : full[k]? = some z := by
      have := congrArg (fun l : List D => l[0]?) hf
      simpa using this
    have hd : full.drop (k + 1) = suf := by
      have := congrArg (List.drop 1) hf
      simpa [List.drop_drop, Nat.add_comm] using this
    have ht : full.take (k + 1) = full.take k ++ [z] := by rw [List.take_add_one, hk']; rfl
    simp only [dIx_t0, dIx_t1, dIx_l0, dIx_l1, toItems, itemsOf, runF, runL, startE, endF, endL, R.bind_ok, R.bind_exc, R.bind_stuck, gSeq, gIf, gSet, gOwn, gRet, gRetL, gRetO, gDrop, gTgt, gT, gsC, gsN, gN, gFor, gApp, gExt, gFrz, gNil, gExc, eVar, eC, e1, e2, eA, aNil, aCons, eTup, eLst, eCall, lCall, listR, eChain, tV, tAndD, tOrD, tNotD, eAnd, eOr, eNot, eIf, eL, lDisp, lList, lRep, oNone, oSome, eSl, iSeq, iRng1, iRng2, iZipD, iEnumD, iRevD, lListRange, lLc, eSorted, eSortSet, eLenSet, eBor, tBor, tYesD, noE, toB, dCmp, dSub, dNeg, dInt, dLen, dIs, dIsNot, List.map_cons, List.map_nil, List.length_cons, List.length_nil, Nat.reduceAdd, Nat.reduceSub, Nat.reduceLeDiff, List.replicate, List.cons_append, List.nil_append, List.append_nil, List.getElem?_cons_zero, List.getElem?_cons_succ, List.set_cons_zero, List.set_cons_succ, if_true, if_false, reduceIte, Bool.not_true, Bool.not_false, Bool.false_eq_true, reduceCtorEq, loopF, enumFrom, cases_step m full k z (ha z (List.mem_cons_self ..)) hk hp, goodFrom]
    by_cases hc : (isCaseB m z && !((full.take k).any fun y => PyData.eqv y z)) = true
    · simp only [hc]
      simp only [dIx_t0, dIx_t1, dIx_l0, dIx_l1, toItems, itemsOf, runF, runL, startE, endF, endL, R.bind_ok, R.bind_exc, R.bind_stuck, gSeq, gIf, gSet, gOwn, gRet, gRetL, gRetO, gDrop, gTgt, gT, gsC, gsN, gN, gFor, gApp, gExt, gFrz, gNil, gExc, eVar, eC, e1, e2, eA, aNil, aCons, eTup, eLst, eCall, lCall, listR, eChain, tV, tAndD, tOrD, tNotD, eAnd, eOr, eNot, eIf, eL, lDisp, lList, lRep, oNone, oSome, eSl, iSeq, iRng1, iRng2, iZipD, iEnumD, iRevD, lListRange, lLc, eSorted, eSortSet, eLenSet, eBor, tBor, tYesD, noE, toB, dCmp, dSub, dNeg, dInt, dLen, dIs, dIsNot, List.map_cons, List.map_nil, List.length_cons, List.length_nil, Nat.reduceAdd, Nat.reduceSub, Nat.reduceLeDiff, List.replicate, List.cons_append, List.nil_append, List.append_nil, List.getElem?_cons_zero, List.getElem?_cons_succ, List.set_cons_zero, List.set_cons_succ, if_true, if_false, reduceIte, Bool.not_true, Bool.not_false, Bool.false_eq_true, reduceCtorEq, Bool.true_and]
      have h1 := (Bool.and_eq_true_iff.mp hc).1
      obtain ⟨a, b, e⟩ := cases_loop m full suf (k + 1) (.val (.int k)) (.val z) hd hlt (fun x hx => ha x (List.mem_cons_of_mem _ hx)) (fun x hx => by
        rw [ht] at hx
        rcases List.mem_append.mp hx with hx | hx
        · exact hp x hx
        · rw [List.mem_singleton] at hx; subst hx; exact h1)
      rw [ht] at e
      exact ⟨a, b, e⟩
    · rw [Bool.not_eq_true] at hc
      simp only [hc]
      simp only [dIx_t0, dIx_t1, dIx_l0, dIx_l1, toItems, itemsOf, runF, runL, startE, endF, endL, R.bind_ok, R.bind_exc, R.bind_stuck, gSeq, gIf, gSet, gOwn, gRet, gRetL, gRetO, gDrop, gTgt, gT, gsC, gsN, gN, gFor, gApp, gExt, gFrz, gNil, gExc, eVar, eC, e1, e2, eA, aNil, aCons, eTup, eLst, eCall, lCall, listR, eChain, tV, tAndD, tOrD, tNotD, eAnd, eOr, eNot, eIf, eL, lDisp, lList, lRep, oNone, oSome, eSl, iSeq, iRng1, iRng2, iZipD, iEnumD, iRevD, lListRange, lLc, eSorted, eSortSet, eLenSet, eBor, tBor, tYesD, noE, toB, dCmp, dSub, dNeg, dInt, dLen, dIs, dIsNot, List.map_cons, List.map_nil, List.length_cons, List.length_nil, Nat.reduceAdd, Nat.reduceSub, Nat.reduceLeDiff, List.replicate, List.cons_append, List.nil_append, List.append_nil, List.getElem?_cons_zero, List.getElem?_cons_succ, List.set_cons_zero, List.set_cons_succ, if_true, if_false, reduceIte, Bool.not_true, Bool.not_false, Bool.false_eq_true, reduceCtorEq, Bool.false_and]
      exact ⟨s2, s3, trivial⟩
def goodCases (m : Int) : D → Bool
  | .list xs => decide (1 ≤ xs.length ∧ xs.length ≤ 12) && goodFrom m [] xs
  | _ => false
theorem F_need_cases_many (t c : D) (h : tyD t ≠ none) (h2 : amongB 2 5 t = false) : F_need_cases [t, c] = .exc 1 := by
  unfold F_need_cases g_need_cases
  simp only [dIx_t0, dIx_t1, dIx_l0, dIx_l1, toItems, itemsOf, runF, runL, startE, endF, endL, R.bind_ok, R.bind_exc, R.bind_stuck, gSeq, gIf, gSet, gOwn, gRet, gRetL, gRetO, gDrop, gTgt, gT, gsC, gsN, gN, gFor, gApp, gExt, gFrz, gNil, gExc, eVar, eC, e1, e2, eA, aNil, aCons, eTup, eLst, eCall, lCall, listR, eChain, tV, tAndD, tOrD, tNotD, eAnd, eOr, eNot, eIf, eL, lDisp, lList, lRep, oNone, oSome, eSl, iSeq, iRng1, iRng2, iZipD, iEnumD, iRevD, lListRange, lLc, eSorted, eSortSet, eLenSet, eBor, tBor, tYesD, noE, toB, dCmp, dSub, dNeg, dInt, dLen, dIs, dIsNot, List.map_cons, List.map_nil, List.length_cons, List.length_nil, Nat.reduceAdd, Nat.reduceSub, Nat.reduceLeDiff, List.replicate, List.cons_append, List.nil_append, List.append_nil, List.getElem?_cons_zero, List.getElem?_cons_succ, List.set_cons_zero, List.set_cons_succ, if_true, if_false, reduceIte, Bool.not_true, Bool.not_false, Bool.false_eq_true, reduceCtorEq, F_need_many_eq t h, h2]
theorem F_need_cases_eq (m : Int) (c : D) (hm : amongB 2 5 (.int m) = true) (hc : tyD c ≠ none) (ha : ∀ xs, c = .list xs → xs.length ≤ 12 → ∀ x ∈ xs, askD x) :
    F_need_cases [.int m, c] = if goodCases m c = true then .ok .none else .exc 2 := by
  unfold F_need_cases g_need_cases
  simp only [dIx_t0, dIx_t1, dIx_l0, dIx_l1, toItems, itemsOf, runF, runL, startE, endF, endL, R.bind_ok, R.bind_exc, R.bind_stuck, gSeq, gIf, gSet, gOwn, gRet, gRetL, gRetO, gDrop, gTgt, gT, gsC, gsN, gN, gFor, gApp, gExt, gFrz, gNil, gExc, eVar, eC, e1, e2, eA, aNil, aCons, eTup, eLst, eCall, lCall, listR, eChain, tV, tAndD, tOrD, tNotD, eAnd, eOr, eNot, eIf, eL, lDisp, lList, lRep, oNone, oSome, eSl, iSeq, iRng1, iRng2, iZipD, iEnumD, iRevD, lListRange, lLc, eSorted, eSortSet, eLenSet, eBor, tBor, tYesD, noE, toB, dCmp, dSub, dNeg, dInt, dLen, dIs, dIsNot, List.map_cons, List.map_nil, List.length_cons, List.length_nil, Nat.reduceAdd, Nat.reduceSub, Nat.reduceLeDiff, List.replicate, List.cons_append, List.nil_append, List.append_nil, List.getElem?_cons_zero, List.getElem?_cons_succ, List.set_cons_zero, List.set_cons_succ, if_true, if_false, reduceIte, Bool.not_true, Bool.not_false, Bool.false_eq_true, reduceCtorEq, F_need_many_eq (.int m) (by simp [tyD]), hm, isi_list c hc]
  cases c
  case list xs =>
    simp only [dIx_t0, dIx_t1, dIx_l0, dIx_l1, toItems, itemsOf, runF, runL, startE, endF, endL, R.bind_ok, R.bind_exc, R.bind_stuck, gSeq, gIf, gSet, gOwn, gRet, gRetL, gRetO, gDrop, gTgt, gT, gsC, gsN, gN, gFor, gApp, gExt, gFrz, gNil, gExc, eVar, eC, e1, e2, eA, aNil, aCons, eTup, eLst, eCall, lCall, listR, eChain, tV, tAndD, tOrD, tNotD, eAnd, eOr, eNot, eIf, eL, lDisp, lList, lRep, oNone, oSome, eSl, iSeq, iRng1, iRng2, iZipD, iEnumD, iRevD, lListRange, lLc, eSorted, eSortSet, eLenSet, eBor, tBor, tYesD, noE, toB, dCmp, dSub, dNeg, dInt, dLen, dIs, dIsNot, List.map_cons, List.map_nil, List.length_cons, List.length_nil, Nat.reduceAdd, Nat.reduceSub, Nat.reduceLeDiff, List.replicate, List.cons_append, List.nil_append, List.append_nil, List.getElem?_cons_zero, List.getElem?_cons_succ, List.set_cons_zero, List.set_cons_succ, if_true, if_false, reduceIte, Bool.not_true, Bool.not_false, Bool.false_eq_true, reduceCtorEq]
    by_cases h1 : (1 : Int) ≤ xs.length
    · by_cases h2 : (xs.length : Int) ≤ 12
      · have h3 : (1 ≤ xs.length ∧ xs.length ≤ 12) := by omega
        obtain ⟨a, b, e⟩ := cases_loop m xs xs 0 .no .no rfl (Nat.zero_le _) (ha xs rfl h3.2) (by simp)
        simp only [dIx_t0, dIx_t1, dIx_l0, dIx_l1, toItems, itemsOf, runF, runL, startE, endF, endL, R.bind_ok, R.bind_exc, R.bind_stuck, gSeq, gIf, gSet, gOwn, gRet, gRetL, gRetO, gDrop, gTgt, gT, gsC, gsN, gN, gFor, gApp, gExt, gFrz, gNil, gExc, eVar, eC, e1, e2, eA, aNil, aCons, eTup, eLst, eCall, lCall, listR, eChain, tV, tAndD, tOrD, tNotD, eAnd, eOr, eNot, eIf, eL, lDisp, lList, lRep, oNone, oSome, eSl, iSeq, iRng1, iRng2, iZipD, iEnumD, iRevD, lListRange, lLc, eSorted, eSortSet, eLenSet, eBor, tBor, tYesD, noE, toB, dCmp, dSub, dNeg, dInt, dLen, dIs, dIsNot, List.map_cons, List.map_nil, List.length_cons, List.length_nil, Nat.reduceAdd, Nat.reduceSub, Nat.reduceLeDiff, List.replicate, List.cons_append, List.nil_append, List.append_nil, List.getElem?_cons_zero, List.getElem?_cons_succ, List.set_cons_zero, List.set_cons_succ, if_true, if_false, reduceIte, Bool.not_true, Bool.not_false, Bool.false_eq_true, reduceCtorEq, decide_eq_true h1, decide_eq_true h2, goodCases, decide_eq_true h3, Bool.true_and, e]
        rw [List.take_zero]
        cases goodFrom m [] xs <;> simp only [dIx_t0, dIx_t1, dIx_l0, dIx_l1, toItems, itemsOf, runF, runL, startE, endF, endL, R.bind_ok, R.bind_exc, R.bind_stuck, gSeq, gIf, gSet, gOwn, gRet, gRetL, gRetO, gDrop, gTgt, gT, gsC, gsN, gN, gFor, gApp, gExt, gFrz, gNil, gExc, eVar, eC, e1, e2, eA, aNil, aCons, eTup, eLst, eCall, lCall, listR, eChain, tV, tAndD, tOrD, tNotD, eAnd, eOr, eNot, eIf, eL, lDisp, lList, lRep, oNone, oSome, eSl, iSeq, iRng1, iRng2, iZipD, iEnumD, iRevD, lListRange, lLc, eSorted, eSortSet, eLenSet, eBor, tBor, tYesD, noE, toB, dCmp, dSub, dNeg, dInt, dLen, dIs, dIsNot, List.map_cons, List.map_nil, List.length_cons, List.length_nil, Nat.reduceAdd, Nat.reduceSub, Nat.reduceLeDiff, List.replicate, List.cons_append, List.nil_append, List.append_nil, List.getElem?_cons_zero, List.getElem?_cons_succ, List.set_cons_zero, List.set_cons_succ, if_true, if_false, reduceIte, Bool.not_true, Bool.not_false, Bool.false_eq_true, reduceCtorEq]
      · have h3 : ¬ (1 ≤ xs.length ∧ xs.length ≤ 12) := by omega
        simp only [dIx_t0, dIx_t1, dIx_l0, dIx_l1, toItems, itemsOf, runF, runL, startE, endF, endL, R.bind_ok, R.bind_exc, R.bind_stuck, gSeq, gIf, gSet, gOwn, gRet, gRetL, gRetO, gDrop, gTgt, gT, gsC, gsN, gN, gFor, gApp, gExt, gFrz, gNil, gExc, eVar, eC, e1, e2, eA, aNil, aCons, eTup, eLst, eCall, lCall, listR, eChain, tV, tAndD, tOrD, tNotD, eAnd, eOr, eNot, eIf, eL, lDisp, lList, lRep, oNone, oSome, eSl, iSeq, iRng1, iRng2, iZipD, iEnumD, iRevD, lListRange, lLc, eSorted, eSortSet, eLenSet, eBor, tBor, tYesD, noE, toB, dCmp, dSub, dNeg, dInt, dLen, dIs, dIsNot, List.map_cons, List.map_nil, List.length_cons, List.length_nil, Nat.reduceAdd, Nat.reduceSub, Nat.reduceLeDiff, List.replicate, List.cons_append, List.nil_append, List.append_nil, List.getElem?_cons_zero, List.getElem?_cons_succ, List.set_cons_zero, List.set_cons_succ, if_true, if_false, reduceIte, Bool.not_true, Bool.not_false, Bool.false_eq_true, reduceCtorEq, decide_eq_true h1, decide_eq_false h2, goodCases, decide_eq_false h3, Bool.false_and]
    · have h3 : ¬ (1 ≤ xs.length ∧ xs.length ≤ 12) := by omega
      simp only [dIx_t0, dIx_t1, dIx_l0, dIx_l1, toItems, itemsOf, runF, runL, startE, endF, endL, R.bind_ok, R.bind_exc, R.bind_stuck, gSeq, gIf, gSet, gOwn, gRet, gRetL, gRetO, gDrop, gTgt, gT, gsC, gsN, gN, gFor, gApp, gExt, gFrz, gNil, gExc, eVar, eC, e1, e2, eA, aNil, aCons, eTup, eLst, eCall, lCall, listR, eChain, tV, tAndD, tOrD, tNotD, eAnd, eOr, eNot, eIf, eL, lDisp, lList, lRep, oNone, oSome, eSl, iSeq, iRng1, iRng2, iZipD, iEnumD, iRevD, lListRange, lLc, eSorted, eSortSet, eLenSet, eBor, tBor, tYesD, noE, toB, dCmp, dSub, dNeg, dInt, dLen, dIs, dIsNot, List.map_cons, List.map_nil, List.length_cons, List.length_nil, Nat.reduceAdd, Nat.reduceSub, Nat.reduceLeDiff, List.replicate, List.cons_append, List.nil_append, List.append_nil, List.getElem?_cons_zero, List.getElem?_cons_succ, List.set_cons_zero, List.set_cons_succ, if_true, if_false, reduceIte, Bool.not_true, Bool.not_false, Bool.false_eq_true, reduceCtorEq, decide_eq_false h1, goodCases, decide_eq_false h3, Bool.false_and]
  all_goals simp only [dIx_t0, dIx_t1, dIx_l0, dIx_l1, toItems, itemsOf, runF, runL, startE, endF, endL, R.bind_ok, R.bind_exc, R.bind_stuck, gSeq, gIf, gSet, gOwn, gRet, gRetL, gRetO, gDrop, gTgt, gT, gsC, gsN, gN, gFor, gApp, gExt, gFrz, gNil, gExc, eVar, eC, e1, e2, eA, aNil, aCons, eTup, eLst, eCall, lCall, listR, eChain, tV, tAndD, tOrD, tNotD, eAnd, eOr, eNot, eIf, eL, lDisp, lList, lRep, oNone, oSome, eSl, iSeq, iRng1, iRng2, iZipD, iEnumD, iRevD, lListRange, lLc, eSorted, eSortSet, eLenSet, eBor, tBor, tYesD, noE, toB, dCmp, dSub, dNeg, dInt, dLen, dIs, dIsNot, List.map_cons, List.map_nil, List.length_cons, List.length_nil, Nat.reduceAdd, Nat.reduceSub, Nat.reduceLeDiff, List.replicate, List.cons_append, List.nil_append, List.append_nil, List.getElem?_cons_zero, List.getElem?_cons_succ, List.set_cons_zero, List.set_cons_succ, if_true, if_false, reduceIte, Bool.not_true, Bool.not_false, Bool.false_eq_true, reduceCtorEq, goodCases]
/-! ### typed cases -/
def encC (c : List Int) : D := .tuple (c.map PyData.int)
def CaseOk (m : Nat) (c : List Int) : Prop := c.length = m ∧ ∀ z ∈ c, -1 ≤ z ∧ z ≤ 1
theorem encC_inj {a b : List Int} (h : encC a = encC b) : a = b := map_int_inj.mp (PyData.tuple.inj h)
theorem encC_sh (c : List Int) : sh 1 (encC c) := sh_tuple (sh_ints _)
theorem encC_exact (c : List Int) : exact (encC c) = true := by simpa [encC, exact] using exact_ints c
theorem encC_eqv (a b : List Int) : PyData.eqv (encC a) (encC b) = decide (a = b) := by
  rw [Bool.eq_iff_iff, eqv_exact _ _ (encC_exact a) (encC_exact b), decide_eq_true_eq]
  exact ⟨encC_inj, fun h => by rw [h]⟩
theorem encC_ask (c : List Int) (h : c.length ≤ 100000) : askD (encC c) := ⟨by simp [encC, tyD], fun xs e => by
  cases e
  exact ⟨fun x hx => by obtain ⟨i, _, rfl⟩ := List.mem_map.mp hx; simp [tyD], by rw [List.length_map]; exact h⟩⟩
theorem isCaseB_enc {m : Nat} {c : List Int} (h : CaseOk m c) : isCaseB m (encC c) = true := by
  simp only [isCaseB, encC, List.length_map, h.1, decide_true, Bool.true_and, List.all_map, List.all_eq_true, Function.comp_def, amongB, Bool.and_eq_true, decide_eq_true_eq]
  exact h.2
theorem any_enc (cs : List (List Int)) (c : List Int) : ((cs.map encC).any fun z => PyData.eqv z (encC c)) = decide (c ∈ cs) := by
  rw [List.any_map, Bool.eq_iff_iff, decide_eq_true_eq, List.any_eq_true]
  constructor
  · rintro ⟨x, hx, e⟩
    simp only [Function.comp_def, encC_eqv, decide_eq_true_eq] at e
    exact e ▸ hx
  · intro h
    exact ⟨c, h, by simp only [Function.comp_def, encC_eqv, decide_true]⟩
theorem goodFrom_enc (m : Nat) : ∀ (suf pre : List (List Int)), (∀ c ∈ suf, CaseOk m c) → (pre ++ suf).Nodup → goodFrom m (pre.map encC) (suf.map encC) = true
  | [], _, _, _ => rfl
  | c :: suf, pre, hc, hn => by
    have h1 : c ∉ pre := fun hp => (List.nodup_append.mp hn).2.2 c hp c (List.mem_cons_self ..) rfl
    rw [List.map_cons, goodFrom, isCaseB_enc (hc c (List.mem_cons_self ..)), any_enc, decide_eq_false h1]
    have e : pre.map encC ++ [encC c] = (pre ++ [c]).map encC := by rw [List.map_append]; rfl
    rw [e, goodFrom_enc m suf (pre ++ [c]) (fun d hd => hc d (List.mem_cons_of_mem _ hd)) (by simpa using hn)]
    rfl
/-- such cases -/
structure CasesOk (m : Nat) (cs : List (List Int)) : Prop where
  ok : ∀ c ∈ cs, CaseOk m c
  nd : cs.Nodup
  pos : 1 ≤ cs.length
  le : cs.length ≤ 12
theorem goodCases_enc {m : Nat} {cs : List (List Int)} (h : CasesOk m cs) : goodCases m (.list (cs.map encC)) = true := by
  have h1 : (1 ≤ cs.length ∧ cs.length ≤ 12) := ⟨h.pos, h.le⟩
  simp only [goodCases, List.length_map, decide_eq_true h1, Bool.true_and]
  exact goodFrom_enc m cs [] h.ok (by simpa using h.nd)
theorem F_need_cases_ok {m : Nat} {cs : List (List Int)} (hm : 2 ≤ m ∧ m ≤ 5) (h : CasesOk m cs) : F_need_cases [.int m, .list (cs.map encC)] = .ok .none := by
  rw [F_need_cases_eq m _ (by simp only [amongB, Bool.and_eq_true, decide_eq_true_eq]; omega) (by simp [tyD]) fun xs e _ x hx => ?_, if_pos (goodCases_enc h)]
  cases e
  obtain ⟨c, hc, rfl⟩ := List.mem_map.mp hx
  exact encC_ask c (by rw [(h.ok c hc).1]; omega)
end W

set_option Elab.async false
set_option linter.all false
set_option maxRecDepth 100000
set_option maxHeartbeats 1000000
namespace W
open PySem PL
def scriptD (ns : List Int) : D := .dict [(.none, .list (ns.map PyData.int))]
def cellI (ns : List Int) (k : Int) : Int := if k < ns.length then ns.getD k.toNat 0 else 0
def mixI (ns : List Int) (k : Int) : Int := (cellI ns k + 7919 * k + 13) * 48271 % 2147483647 / 3
theorem cell_eq (ns : List Int) (k : Int) (h : 0 ≤ k) : F__law_cell_at [scriptD ns, .int k] = .ok (.int (cellI ns k)) := by
  unfold F__law_cell_at g__law_cell_at scriptD cellI
  by_cases hk : k < ns.length
  · have hl : k.toNat < ns.length := by omega
    simp only [dIx_pick, dMod, dDiv, dList, dTuple, dRev, dSl, Int.reduceLT, Int.reduceLE, Int.reduceEq, Int.reduceSub, Int.reduceAdd, and_self, true_and, and_true, and_false, false_and, Int.cast_ofNat_Int, decide_true, decide_false, Bool.true_and, Bool.false_and, Bool.and_true, Bool.and_false, dIx_t0, dIx_t1, dIx_l0, dIx_l1, toItems, itemsOf, runF, runL, startE, endF, endL, R.bind_ok, R.bind_exc, R.bind_stuck, gSeq, gIf, gSet, gOwn, gRet, gRetL, gRetO, gDrop, gTgt, gT, gsC, gsN, gN, gFor, gApp, gExt, gFrz, gNil, gExc, eVar, eC, e1, e2, eA, aNil, aCons, eTup, eLst, eCall, lCall, listR, eChain, tV, tAndD, tOrD, tNotD, eAnd, eOr, eNot, eIf, eL, lDisp, lList, lRep, oNone, oSome, eSl, iSeq, iRng1, iRng2, iZipD, iEnumD, iRevD, lListRange, lLc, eSorted, eSortSet, eLenSet, eBor, tBor, tYesD, noE, toB, dCmp, dSub, dNeg, dInt, dLen, dIs, dIsNot, List.map_cons, List.map_nil, List.length_cons, List.length_nil, Nat.reduceAdd, Nat.reduceSub, Nat.reduceLeDiff, List.replicate, List.cons_append, List.nil_append, List.append_nil, List.getElem?_cons_zero, List.getElem?_cons_succ, List.set_cons_zero, List.set_cons_succ, if_true, if_false, reduceIte, Bool.not_true, Bool.not_false, Bool.false_eq_true, reduceCtorEq, List.length_map, decide_eq_true hk, if_pos hk]
    rw [dIx_scr h (y := .int (ns.getD k.toNat 0)) (by rw [List.getElem?_map, List.getElem?_eq_getElem hl, List.getD_eq_getElem?_getD, List.getElem?_eq_getElem hl]; rfl)]
    simp only [dIx_pick, dMod, dDiv, dList, dTuple, dRev, dSl, Int.reduceLT, Int.reduceLE, Int.reduceEq, Int.reduceSub, Int.reduceAdd, and_self, true_and, and_true, and_false, false_and, Int.cast_ofNat_Int, decide_true, decide_false, Bool.true_and, Bool.false_and, Bool.and_true, Bool.and_false, dIx_t0, dIx_t1, dIx_l0, dIx_l1, toItems, itemsOf, runF, runL, startE, endF, endL, R.bind_ok, R.bind_exc, R.bind_stuck, gSeq, gIf, gSet, gOwn, gRet, gRetL, gRetO, gDrop, gTgt, gT, gsC, gsN, gN, gFor, gApp, gExt, gFrz, gNil, gExc, eVar, eC, e1, e2, eA, aNil, aCons, eTup, eLst, eCall, lCall, listR, eChain, tV, tAndD, tOrD, tNotD, eAnd, eOr, eNot, eIf, eL, lDisp, lList, lRep, oNone, oSome, eSl, iSeq, iRng1, iRng2, iZipD, iEnumD, iRevD, lListRange, lLc, eSorted, eSortSet, eLenSet, eBor, tBor, tYesD, noE, toB, dCmp, dSub, dNeg, dInt, dLen, dIs, dIsNot, List.map_cons, List.map_nil, List.length_cons, List.length_nil, Nat.reduceAdd, Nat.reduceSub, Nat.reduceLeDiff, List.replicate, List.cons_append, List.nil_append, List.append_nil, List.getElem?_cons_zero, List.getElem?_cons_succ, List.set_cons_zero, List.set_cons_succ, if_true, if_false, reduceIte, Bool.not_true, Bool.not_false, Bool.false_eq_true, reduceCtorEq]
  · simp only [dIx_pick, dMod, dDiv, dList, dTuple, dRev, dSl, Int.reduceLT, Int.reduceLE, Int.reduceEq, Int.reduceSub, Int.reduceAdd, and_self, true_and, and_true, and_false, false_and, Int.cast_ofNat_Int, decide_true, decide_false, Bool.true_and, Bool.false_and, Bool.and_true, Bool.and_false, dIx_t0, dIx_t1, dIx_l0, dIx_l1, toItems, itemsOf, runF, runL, startE, endF, endL, R.bind_ok, R.bind_exc, R.bind_stuck, gSeq, gIf, gSet, gOwn, gRet, gRetL, gRetO, gDrop, gTgt, gT, gsC, gsN, gN, gFor, gApp, gExt, gFrz, gNil, gExc, eVar, eC, e1, e2, eA, aNil, aCons, eTup, eLst, eCall, lCall, listR, eChain, tV, tAndD, tOrD, tNotD, eAnd, eOr, eNot, eIf, eL, lDisp, lList, lRep, oNone, oSome, eSl, iSeq, iRng1, iRng2, iZipD, iEnumD, iRevD, lListRange, lLc, eSorted, eSortSet, eLenSet, eBor, tBor, tYesD, noE, toB, dCmp, dSub, dNeg, dInt, dLen, dIs, dIsNot, List.map_cons, List.map_nil, List.length_cons, List.length_nil, Nat.reduceAdd, Nat.reduceSub, Nat.reduceLeDiff, List.replicate, List.cons_append, List.nil_append, List.append_nil, List.getElem?_cons_zero, List.getElem?_cons_succ, List.set_cons_zero, List.set_cons_succ, if_true, if_false, reduceIte, Bool.not_true, Bool.not_false, Bool.false_eq_true, reduceCtorEq, List.length_map, decide_eq_false hk, if_neg hk]
theorem mixed_eq (ns : List Int) (k : Int) (h : 0 ≤ k) : F__law_mixed [scriptD ns, .int k] = .ok (.int (mixI ns k)) := by
  have q1 : small64 7919 = true := by decide
  have q2 : small64 48271 = true := by decide
  unfold F__law_mixed g__law_mixed mixI
  simp only [dIx_pick, dMod, dDiv, dList, dTuple, dRev, dSl, Int.reduceLT, Int.reduceLE, Int.reduceEq, Int.reduceSub, Int.reduceAdd, and_self, true_and, and_true, and_false, false_and, Int.cast_ofNat_Int, decide_true, decide_false, Bool.true_and, Bool.false_and, Bool.and_true, Bool.and_false, dIx_t0, dIx_t1, dIx_l0, dIx_l1, toItems, itemsOf, runF, runL, startE, endF, endL, R.bind_ok, R.bind_exc, R.bind_stuck, gSeq, gIf, gSet, gOwn, gRet, gRetL, gRetO, gDrop, gTgt, gT, gsC, gsN, gN, gFor, gApp, gExt, gFrz, gNil, gExc, eVar, eC, e1, e2, eA, aNil, aCons, eTup, eLst, eCall, lCall, listR, eChain, tV, tAndD, tOrD, tNotD, eAnd, eOr, eNot, eIf, eL, lDisp, lList, lRep, oNone, oSome, eSl, iSeq, iRng1, iRng2, iZipD, iEnumD, iRevD, lListRange, lLc, eSorted, eSortSet, eLenSet, eBor, tBor, tYesD, noE, toB, dCmp, dSub, dNeg, dInt, dLen, dIs, dIsNot, List.map_cons, List.map_nil, List.length_cons, List.length_nil, Nat.reduceAdd, Nat.reduceSub, Nat.reduceLeDiff, List.replicate, List.cons_append, List.nil_append, List.append_nil, List.getElem?_cons_zero, List.getElem?_cons_succ, List.set_cons_zero, List.set_cons_succ, if_true, if_false, reduceIte, Bool.not_true, Bool.not_false, Bool.false_eq_true, reduceCtorEq, cell_eq ns k h, dMul, dAdd, q1, q2, Bool.true_or, Bool.or_true]
theorem mixI_nonneg (ns : List Int) (k : Int) : 0 ≤ mixI ns k := by
  unfold mixI
  omega
theorem mixI_lt (ns : List Int) (k : Int) : mixI ns k < 715827883 := by
  unfold mixI
  omega
theorem rd2 : rangeD 0 2 = [.int 0, .int 1] := rfl
theorem rd3 : rangeD 0 3 = [.int 0, .int 1, .int 2] := rfl
theorem rd4 : rangeD 0 4 = [.int 0, .int 1, .int 2, .int 3] := rfl
theorem rd5 : rangeD 0 5 = [.int 0, .int 1, .int 2, .int 3, .int 4] := rfl
theorem w0 : dIx (.list [.int 1, .int 3, .int 9, .int 27, .int 81]) (.int 0) = .ok (.int 1) := rfl
theorem w1 : dIx (.list [.int 1, .int 3, .int 9, .int 27, .int 81]) (.int 1) = .ok (.int 3) := rfl
theorem w2 : dIx (.list [.int 1, .int 3, .int 9, .int 27, .int 81]) (.int 2) = .ok (.int 9) := rfl
theorem w3 : dIx (.list [.int 1, .int 3, .int 9, .int 27, .int 81]) (.int 3) = .ok (.int 27) := rfl
theorem w4 : dIx (.list [.int 1, .int 3, .int 9, .int 27, .int 81]) (.int 4) = .ok (.int 81) := rfl
/-- how many things -/
def Many (m : Nat) : Prop := m = 2 ∨ m = 3 ∨ m = 4 ∨ m = 5
/-- the case that a number draws -/
def drawnI (m : Nat) (n : Int) : List Int := ([1, 3, 9, 27, 81].take m).map fun d => n / d % 3 - 1
theorem drawn_ok {m : Nat} (hm : Many m) (n : Int) : CaseOk m (drawnI m n) := by
  refine ⟨by rcases hm with rfl | rfl | rfl | rfl <;> rfl, fun z hz => ?_⟩
  obtain ⟨d, _, rfl⟩ := List.mem_map.mp hz
  omega
theorem c_puz {m : Nat} (hm : Many m) (n : Int) (s0 s1 s2 s3 s5 s6 s7 s9 s10 : PL.Slot noObj) :
    c__law_puzzle_1 [s0, s1, s2, s3, .val (.int m), s5, s6, s7, .val (.int n), s9, s10, .no] = .ok ((drawnI m n).map PyData.int) := by
  unfold c__law_puzzle_1 drawnI
  rcases hm with rfl | rfl | rfl | rfl
  all_goals
    simp only [dIx_pick, dMod, dDiv, dList, dTuple, dRev, dSl, Int.reduceLT, Int.reduceLE, Int.reduceEq, Int.reduceSub, Int.reduceAdd, and_self, true_and, and_true, and_false, false_and, Int.cast_ofNat_Int, decide_true, decide_false, Bool.true_and, Bool.false_and, Bool.and_true, Bool.and_false, dIx_t0, dIx_t1, dIx_l0, dIx_l1, toItems, itemsOf, runF, runL, startE, endF, endL, R.bind_ok, R.bind_exc, R.bind_stuck, gSeq, gIf, gSet, gOwn, gRet, gRetL, gRetO, gDrop, gTgt, gT, gsC, gsN, gN, gFor, gApp, gExt, gFrz, gNil, gExc, eVar, eC, e1, e2, eA, aNil, aCons, eTup, eLst, eCall, lCall, listR, eChain, tV, tAndD, tOrD, tNotD, eAnd, eOr, eNot, eIf, eL, lDisp, lList, lRep, oNone, oSome, eSl, iSeq, iRng1, iRng2, iZipD, iEnumD, iRevD, lListRange, lLc, eSorted, eSortSet, eLenSet, eBor, tBor, tYesD, noE, toB, dCmp, dSub, dNeg, dInt, dLen, dIs, dIsNot, List.map_cons, List.map_nil, List.length_cons, List.length_nil, Nat.reduceAdd, Nat.reduceSub, Nat.reduceLeDiff, List.replicate, List.cons_append, List.nil_append, List.append_nil, List.getElem?_cons_zero, List.getElem?_cons_succ, List.set_cons_zero, List.set_cons_succ, if_true, if_false, reduceIte, Bool.not_true, Bool.not_false, Bool.false_eq_true, reduceCtorEq, rd2, rd3, rd4, rd5, w0, w1, w2, w3, w4, eachR, lcStep, wipeE, Int.reduceNeg, List.all_cons, List.all_nil, plainAt, List.take]
/-! ### the drawn pool -/
theorem puz_step1 (ns : List Int) (at_ : Int) (h0 : 0 ≤ at_) {m : Nat} (hm : Many m) (cs : List (List Int)) (hl : (cs.map encC).length < 100000) (k : Int) (hk : 0 ≤ k) (s2 s3 s5 s8 s9 s10 : PL.Slot noObj) :
    g__law_puzzle_L1 [.val (scriptD ns), .val (.int at_), s2, s3, .val (.int m), s5, .own (cs.map encC), .val (.int k), s8, s9, s10, .no] =
      .ok (.nx, [.val (scriptD ns), .val (.int at_), s2, s3, .val (.int m), s5, .own ((cs ++ [drawnI m (mixI ns (at_ + 1 + k))]).map encC), .val (.int k), .val (.int (mixI ns (at_ + 1 + k))), s9, s10, .no]) := by
  unfold g__law_puzzle_L1
  simp only [dIx_pick, dMod, dDiv, dList, dTuple, dRev, dSl, Int.reduceLT, Int.reduceLE, Int.reduceEq, Int.reduceSub, Int.reduceAdd, and_self, true_and, and_true, and_false, false_and, Int.cast_ofNat_Int, decide_true, decide_false, Bool.true_and, Bool.false_and, Bool.and_true, Bool.and_false, dIx_t0, dIx_t1, dIx_l0, dIx_l1, toItems, itemsOf, runF, runL, startE, endF, endL, R.bind_ok, R.bind_exc, R.bind_stuck, gSeq, gIf, gSet, gOwn, gRet, gRetL, gRetO, gDrop, gTgt, gT, gsC, gsN, gN, gFor, gApp, gExt, gFrz, gNil, gExc, eVar, eC, e1, e2, eA, aNil, aCons, eTup, eLst, eCall, lCall, listR, eChain, tV, tAndD, tOrD, tNotD, eAnd, eOr, eNot, eIf, eL, lDisp, lList, lRep, oNone, oSome, eSl, iSeq, iRng1, iRng2, iZipD, iEnumD, iRevD, lListRange, lLc, eSorted, eSortSet, eLenSet, eBor, tBor, tYesD, noE, toB, dCmp, dSub, dNeg, dInt, dLen, dIs, dIsNot, List.map_cons, List.map_nil, List.length_cons, List.length_nil, Nat.reduceAdd, Nat.reduceSub, Nat.reduceLeDiff, List.replicate, List.cons_append, List.nil_append, List.append_nil, List.getElem?_cons_zero, List.getElem?_cons_succ, List.set_cons_zero, List.set_cons_succ, if_true, if_false, reduceIte, Bool.not_true, Bool.not_false, Bool.false_eq_true, reduceCtorEq, dAdd, mixed_eq ns (at_ + 1 + k) (by omega), c_puz hm, List.map_append, hl]
  rfl
theorem puz_loop1 (ns : List Int) (at_ : Int) (h0 : 0 ≤ at_) {m : Nat} (hm : Many m) : ∀ (ks : List Int) (cs : List (List Int)) (s2 s3 s5 s7 s8 s9 s10 : PL.Slot noObj), (∀ k ∈ ks, 0 ≤ k) → (∀ c ∈ cs, CaseOk m c) → cs.length + ks.length < 1000 →
    ∃ (cs' : List (List Int)) (s7' s8' : PL.Slot noObj), loopF (gN 7) g__law_puzzle_L1 (ks.map PyData.int) [.val (scriptD ns), .val (.int at_), s2, s3, .val (.int m), s5, .own (cs.map encC), s7, s8, s9, s10, .no] =
      .ok (.nx, [.val (scriptD ns), .val (.int at_), s2, s3, .val (.int m), s5, .own (cs'.map encC), s7', s8', s9, s10, .no]) ∧ (∀ c ∈ cs', CaseOk m c) ∧ cs'.length = cs.length + ks.length
  | [], cs, s2, s3, s5, s7, s8, s9, s10, _, hc, _ => ⟨cs, s7, s8, by simp only [dIx_pick, dMod, dDiv, dList, dTuple, dRev, dSl, Int.reduceLT, Int.reduceLE, Int.reduceEq, Int.reduceSub, Int.reduceAdd, and_self, true_and, and_true, and_false, false_and, Int.cast_ofNat_Int, decide_true, decide_false, Bool.true_and, Bool.false_and, Bool.and_true, Bool.and_false, dIx_t0, dIx_t1, dIx_l0, dIx_l1, toItems, itemsOf, runF, runL, startE, endF, endL, R.bind_ok, R.bind_exc, R.bind_stuck, gSeq, gIf, gSet, gOwn, gRet, gRetL, gRetO, gDrop, gTgt, gT, gsC, gsN, gN, gFor, gApp, gExt, gFrz, gNil, gExc, eVar, eC, e1, e2, eA, aNil, aCons, eTup, eLst, eCall, lCall, listR, eChain, tV, tAndD, tOrD, tNotD, eAnd, eOr, eNot, eIf, eL, lDisp, lList, lRep, oNone, oSome, eSl, iSeq, iRng1, iRng2, iZipD, iEnumD, iRevD, lListRange, lLc, eSorted, eSortSet, eLenSet, eBor, tBor, tYesD, noE, toB, dCmp, dSub, dNeg, dInt, dLen, dIs, dIsNot, List.map_cons, List.map_nil, List.length_cons, List.length_nil, Nat.reduceAdd, Nat.reduceSub, Nat.reduceLeDiff, List.replicate, List.cons_append, List.nil_append, List.append_nil, List.getElem?_cons_zero, List.getElem?_cons_succ, List.set_cons_zero, List.set_cons_succ, if_true, if_false, reduceIte, Bool.not_true, Bool.not_false, Bool.false_eq_true, reduceCtorEq, loopF], hc, rfl⟩
  | k :: ks, cs, s2, s3, s5, s7, s8, s9, s10, hk, hc, hl => by
    obtain ⟨cs', a, b, e, h1, h2⟩ := puz_loop1 ns at_ h0 hm ks (cs ++ [drawnI m (mixI ns (at_ + 1 + k))]) s2 s3 s5 (.val (.int k)) (.val (.int (mixI ns (at_ + 1 + k)))) s9 s10 (fun j hj => hk j (List.mem_cons_of_mem _ hj)) (fun c h => by
      rcases List.mem_append.mp h with h | h
      · exact hc c h
      · rw [List.mem_singleton] at h; subst h; exact drawn_ok hm _) (by rw [List.length_append]; simp only [List.length_cons, List.length_nil] at hl ⊢; omega)
    refine ⟨cs', a, b, ?_, h1, by rw [h2, List.length_append, List.length_cons, List.length_cons, List.length_nil]; omega⟩
    simp only [dIx_t0, dIx_t1, dIx_l0, dIx_l1, toItems, itemsOf, runF, runL, startE, endF, endL, R.bind_ok, R.bind_exc, R.bind_stuck, gSeq, gIf, gSet, gOwn, gRet, gRetL, gRetO, gDrop, gTgt, gT, gsC, gsN, gN, gFor, gApp, gExt, gFrz, gNil, gExc, eVar, eC, e1, e2, eA, aNil, aCons, eTup, eLst, eCall, lCall, listR, eChain, tV, tAndD, tOrD, tNotD, eAnd, eOr, eNot, eIf, eL, lDisp, lList, lRep, oNone, oSome, eSl, iSeq, iRng1, iRng2, iZipD, iEnumD, iRevD, lListRange, lLc, eSorted, eSortSet, eLenSet, eBor, tBor, tYesD, noE, toB, dCmp, dSub, dNeg, dInt, dLen, dIs, dIsNot, List.map_cons, List.map_nil, List.length_cons, List.length_nil, Nat.reduceAdd, Nat.reduceSub, Nat.reduceLeDiff, List.replicate, List.cons_append, List.nil_append, List.append_nil, List.getElem?_cons_zero, List.getElem?_cons_succ, List.set_cons_zero, List.set_cons_succ, if_true, if_false, reduceIte, Bool.not_true, Bool.not_false, Bool.false_eq_true, reduceCtorEq, loopF, puz_step1 ns at_ h0 hm cs (by rw [List.length_map]; omega) k (hk k (List.mem_cons_self ..)), e]
/-! ### the pools of one kind -/
def decC : D → Option (List Int)
  | .tuple xs => intsOf xs
  | _ => none
def poolB (m : Nat) (xs : List D) : Bool := !xs.isEmpty && decide (xs.length ≤ 60) && xs.all fun x => match decC x with
  | some c => decide (c.length = m) && c.all fun z => decide (-1 ≤ z) && decide (z ≤ 1)
  | none => false
theorem decC_eq {x : D} {c : List Int} (h : decC x = some c) : x = encC c := by
  unfold decC at h
  split at h
  · rw [intsOf_eq h]; rfl
  · cases h
theorem poolB_enc {m : Nat} : ∀ {xs : List D}, (xs.all fun x => match decC x with
  | some c => decide (c.length = m) && c.all fun z => decide (-1 ≤ z) && decide (z ≤ 1)
  | none => false) = true → ∃ cs : List (List Int), xs = cs.map encC ∧ ∀ c ∈ cs, CaseOk m c
  | [], _ => ⟨[], rfl, by simp⟩
  | x :: xs, h => by
    rw [List.all_cons, Bool.and_eq_true] at h
    obtain ⟨cs, rfl, h2⟩ := poolB_enc h.2
    have h1 := h.1
    split at h1
    · rename_i c hc
      rw [decC_eq hc]
      simp only [Bool.and_eq_true, decide_eq_true_eq, List.all_eq_true] at h1
      exact ⟨c :: cs, rfl, fun d hd => (List.mem_cons.mp hd).elim (fun e => by subst e; exact ⟨h1.1, h1.2⟩) (h2 d)⟩
    · cases h1
def poolK (m kind : Nat) : Bool := match F__law_pool [.int m, .int kind] with
  | .ok xs => poolB m xs
  | _ => false
set_option maxHeartbeats 0 in
theorem pool_all : ([2, 3, 4, 5].all fun m => [0, 1, 2, 3, 4].all fun k => poolK m k) = true := by kernel_rfl
theorem pool_ok {m : Nat} (hm : Many m) (kind : Nat) (hk : kind < 5) : ∃ cs : List (List Int), F__law_pool [.int m, .int kind] = .ok (cs.map encC) ∧ (∀ c ∈ cs, CaseOk m c) ∧ cs ≠ [] ∧ cs.length ≤ 60 := by
  have h1 := List.all_eq_true.mp pool_all m (by rcases hm with rfl | rfl | rfl | rfl <;> simp)
  have h2 := List.all_eq_true.mp h1 kind (by simp; omega)
  unfold poolK at h2
  split at h2
  · rename_i xs hx
    unfold poolB at h2
    simp only [Bool.and_eq_true, Bool.not_eq_true', decide_eq_true_eq] at h2
    obtain ⟨cs, rfl, h3⟩ := poolB_enc h2.2
    refine ⟨cs, hx, h3, fun e => by subst e; simp at h2, by simpa using h2.1.2⟩
  · cases h2
end W

set_option Elab.async false
set_option linter.all false
set_option maxRecDepth 100000
set_option maxHeartbeats 1000000
namespace W
open PySem PL
theorem puz_step2 (ps cs : List (List Int)) (hp : ps ≠ []) (hpl : ps.length ≤ 60) (hcl : (cs.map encC).length < 100000) (k n : Int) (s0 s1 s2 s3 s4 s5 s10 : PL.Slot noObj) :
    ∃ c ∈ ps, g__law_puzzle_L2 [s0, s1, s2, s3, s4, s5, .val (.list (ps.map encC)), .val (.int k), .val (.int n), .own (cs.map encC), s10, .no] =
      .ok (.nx, [s0, s1, s2, s3, s4, s5, .val (.list (ps.map encC)), .val (.int k), .val (.int n), .own ((if c ∈ cs then cs else cs ++ [c]).map encC), .val (encC c), .no]) := by
  have q0 : (0 : Int) < (ps.length : Nat) := by
    cases ps with
    | nil => exact absurd rfl hp
    | cons a r => rw [List.length_cons]; omega
  have q1 : ((ps.map encC).length : Int) = (ps.length : Nat) := by rw [List.length_map]
  have q2 : small64 (1 + n / 64 % 2) = true := by
    unfold small64
    simp only [Bool.and_eq_true, decide_eq_true_eq]
    omega
  obtain ⟨c, hc, e⟩ := List.mem_map.mp (pick_mem (c := n / 8 + k * (1 + n / 64 % 2)) q1 q0)
  refine ⟨c, hc, ?_⟩
  have q3 : (SeqAt.shaped (encC c) && SeqAt.shaped (.list (cs.map encC))) = true := by
    rw [shaped_sh (encC_sh c), shaped_sh (sh_list (n := 1) fun x hx => ?_)]
    · rfl
    · obtain ⟨d, _, rfl⟩ := List.mem_map.mp hx
      exact encC_sh d
  have q4 : dNotIn (encC c) (.list (cs.map encC)) = .ok (.bool !decide (c ∈ cs)) := by
    unfold dNotIn
    simp only [q3, if_true, any_enc]
  unfold g__law_puzzle_L2
  simp only [dIx_pick, dMod, dDiv, dList, dTuple, dRev, dSl, Int.reduceLT, Int.reduceLE, Int.reduceEq, Int.reduceSub, Int.reduceAdd, and_self, true_and, and_true, and_false, false_and, Int.cast_ofNat_Int, decide_true, decide_false, Bool.true_and, Bool.false_and, Bool.and_true, Bool.and_false, dIx_t0, dIx_t1, dIx_l0, dIx_l1, toItems, itemsOf, runF, runL, startE, endF, endL, R.bind_ok, R.bind_exc, R.bind_stuck, gSeq, gIf, gSet, gOwn, gRet, gRetL, gRetO, gDrop, gTgt, gT, gsC, gsN, gN, gFor, gApp, gExt, gFrz, gNil, gExc, eVar, eC, e1, e2, eA, aNil, aCons, eTup, eLst, eCall, lCall, listR, eChain, tV, tAndD, tOrD, tNotD, eAnd, eOr, eNot, eIf, eL, lDisp, lList, lRep, oNone, oSome, eSl, iSeq, iRng1, iRng2, iZipD, iEnumD, iRevD, lListRange, lLc, eSorted, eSortSet, eLenSet, eBor, tBor, tYesD, noE, toB, dCmp, dSub, dNeg, dInt, dLen, dIs, dIsNot, List.map_cons, List.map_nil, List.length_cons, List.length_nil, Nat.reduceAdd, Nat.reduceSub, Nat.reduceLeDiff, List.replicate, List.cons_append, List.nil_append, List.append_nil, List.getElem?_cons_zero, List.getElem?_cons_succ, List.set_cons_zero, List.set_cons_succ, if_true, if_false, reduceIte, Bool.not_true, Bool.not_false, Bool.false_eq_true, reduceCtorEq, dAdd, dMul, q0, q2, Bool.or_true, List.length_map]
  rw [← e]
  simp only [dIx_pick, dMod, dDiv, dList, dTuple, dRev, dSl, Int.reduceLT, Int.reduceLE, Int.reduceEq, Int.reduceSub, Int.reduceAdd, and_self, true_and, and_true, and_false, false_and, Int.cast_ofNat_Int, decide_true, decide_false, Bool.true_and, Bool.false_and, Bool.and_true, Bool.and_false, dIx_t0, dIx_t1, dIx_l0, dIx_l1, toItems, itemsOf, runF, runL, startE, endF, endL, R.bind_ok, R.bind_exc, R.bind_stuck, gSeq, gIf, gSet, gOwn, gRet, gRetL, gRetO, gDrop, gTgt, gT, gsC, gsN, gN, gFor, gApp, gExt, gFrz, gNil, gExc, eVar, eC, e1, e2, eA, aNil, aCons, eTup, eLst, eCall, lCall, listR, eChain, tV, tAndD, tOrD, tNotD, eAnd, eOr, eNot, eIf, eL, lDisp, lList, lRep, oNone, oSome, eSl, iSeq, iRng1, iRng2, iZipD, iEnumD, iRevD, lListRange, lLc, eSorted, eSortSet, eLenSet, eBor, tBor, tYesD, noE, toB, dCmp, dSub, dNeg, dInt, dLen, dIs, dIsNot, List.map_cons, List.map_nil, List.length_cons, List.length_nil, Nat.reduceAdd, Nat.reduceSub, Nat.reduceLeDiff, List.replicate, List.cons_append, List.nil_append, List.append_nil, List.getElem?_cons_zero, List.getElem?_cons_succ, List.set_cons_zero, List.set_cons_succ, if_true, if_false, reduceIte, Bool.not_true, Bool.not_false, Bool.false_eq_true, reduceCtorEq, noObjs_true, q4]
  by_cases h : c ∈ cs
  · simp only [dIx_pick, dMod, dDiv, dList, dTuple, dRev, dSl, Int.reduceLT, Int.reduceLE, Int.reduceEq, Int.reduceSub, Int.reduceAdd, and_self, true_and, and_true, and_false, false_and, Int.cast_ofNat_Int, decide_true, decide_false, Bool.true_and, Bool.false_and, Bool.and_true, Bool.and_false, dIx_t0, dIx_t1, dIx_l0, dIx_l1, toItems, itemsOf, runF, runL, startE, endF, endL, R.bind_ok, R.bind_exc, R.bind_stuck, gSeq, gIf, gSet, gOwn, gRet, gRetL, gRetO, gDrop, gTgt, gT, gsC, gsN, gN, gFor, gApp, gExt, gFrz, gNil, gExc, eVar, eC, e1, e2, eA, aNil, aCons, eTup, eLst, eCall, lCall, listR, eChain, tV, tAndD, tOrD, tNotD, eAnd, eOr, eNot, eIf, eL, lDisp, lList, lRep, oNone, oSome, eSl, iSeq, iRng1, iRng2, iZipD, iEnumD, iRevD, lListRange, lLc, eSorted, eSortSet, eLenSet, eBor, tBor, tYesD, noE, toB, dCmp, dSub, dNeg, dInt, dLen, dIs, dIsNot, List.map_cons, List.map_nil, List.length_cons, List.length_nil, Nat.reduceAdd, Nat.reduceSub, Nat.reduceLeDiff, List.replicate, List.cons_append, List.nil_append, List.append_nil, List.getElem?_cons_zero, List.getElem?_cons_succ, List.set_cons_zero, List.set_cons_succ, if_true, if_false, reduceIte, Bool.not_true, Bool.not_false, Bool.false_eq_true, reduceCtorEq, decide_eq_true h, if_pos h]
  · have hcl2 : cs.length < 100000 := by rw [List.length_map] at hcl; exact hcl
    simp only [dIx_pick, dMod, dDiv, dList, dTuple, dRev, dSl, Int.reduceLT, Int.reduceLE, Int.reduceEq, Int.reduceSub, Int.reduceAdd, and_self, true_and, and_true, and_false, false_and, Int.cast_ofNat_Int, decide_true, decide_false, Bool.true_and, Bool.false_and, Bool.and_true, Bool.and_false, dIx_t0, dIx_t1, dIx_l0, dIx_l1, toItems, itemsOf, runF, runL, startE, endF, endL, R.bind_ok, R.bind_exc, R.bind_stuck, gSeq, gIf, gSet, gOwn, gRet, gRetL, gRetO, gDrop, gTgt, gT, gsC, gsN, gN, gFor, gApp, gExt, gFrz, gNil, gExc, eVar, eC, e1, e2, eA, aNil, aCons, eTup, eLst, eCall, lCall, listR, eChain, tV, tAndD, tOrD, tNotD, eAnd, eOr, eNot, eIf, eL, lDisp, lList, lRep, oNone, oSome, eSl, iSeq, iRng1, iRng2, iZipD, iEnumD, iRevD, lListRange, lLc, eSorted, eSortSet, eLenSet, eBor, tBor, tYesD, noE, toB, dCmp, dSub, dNeg, dInt, dLen, dIs, dIsNot, List.map_cons, List.map_nil, List.length_cons, List.length_nil, Nat.reduceAdd, Nat.reduceSub, Nat.reduceLeDiff, List.replicate, List.cons_append, List.nil_append, List.append_nil, List.getElem?_cons_zero, List.getElem?_cons_succ, List.set_cons_zero, List.set_cons_succ, if_true, if_false, reduceIte, Bool.not_true, Bool.not_false, Bool.false_eq_true, reduceCtorEq, decide_eq_false h, if_neg h, hcl2, List.map_append]
theorem puz_loop2 {m : Nat} (ps : List (List Int)) (hp : ps ≠ []) (hpl : ps.length ≤ 60) (hps : ∀ c ∈ ps, CaseOk m c) (n : Int) (s0 s1 s2 s3 s4 s5 : PL.Slot noObj) : ∀ (ks : List Int) (cs : List (List Int)) (s7 s10 : PL.Slot noObj), (∀ c ∈ cs, CaseOk m c) → cs.Nodup → cs.length + ks.length < 1000 →
    ∃ (cs' : List (List Int)) (s7' s10' : PL.Slot noObj), loopF (gN 7) g__law_puzzle_L2 (ks.map PyData.int) [s0, s1, s2, s3, s4, s5, .val (.list (ps.map encC)), s7, .val (.int n), .own (cs.map encC), s10, .no] =
      .ok (.nx, [s0, s1, s2, s3, s4, s5, .val (.list (ps.map encC)), s7', .val (.int n), .own (cs'.map encC), s10', .no]) ∧ (∀ c ∈ cs', CaseOk m c) ∧ cs'.Nodup ∧ cs'.length ≤ cs.length + ks.length ∧ (1 ≤ cs.length + ks.length → 1 ≤ cs'.length)
  | [], cs, s7, s10, h1, h2, _ => ⟨cs, s7, s10, by simp only [dIx_pick, dMod, dDiv, dList, dTuple, dRev, dSl, Int.reduceLT, Int.reduceLE, Int.reduceEq, Int.reduceSub, Int.reduceAdd, and_self, true_and, and_true, and_false, false_and, Int.cast_ofNat_Int, decide_true, decide_false, Bool.true_and, Bool.false_and, Bool.and_true, Bool.and_false, dIx_t0, dIx_t1, dIx_l0, dIx_l1, toItems, itemsOf, runF, runL, startE, endF, endL, R.bind_ok, R.bind_exc, R.bind_stuck, gSeq, gIf, gSet, gOwn, gRet, gRetL, gRetO, gDrop, gTgt, gT, gsC, gsN, gN, gFor, gApp, gExt, gFrz, gNil, gExc, eVar, eC, e1, e2, eA, aNil, aCons, eTup, eLst, eCall, lCall, listR, eChain, tV, tAndD, tOrD, tNotD, eAnd, eOr, eNot, eIf, eL, lDisp, lList, lRep, oNone, oSome, eSl, iSeq, iRng1, iRng2, iZipD, iEnumD, iRevD, lListRange, lLc, eSorted, eSortSet, eLenSet, eBor, tBor, tYesD, noE, toB, dCmp, dSub, dNeg, dInt, dLen, dIs, dIsNot, List.map_cons, List.map_nil, List.length_cons, List.length_nil, Nat.reduceAdd, Nat.reduceSub, Nat.reduceLeDiff, List.replicate, List.cons_append, List.nil_append, List.append_nil, List.getElem?_cons_zero, List.getElem?_cons_succ, List.set_cons_zero, List.set_cons_succ, if_true, if_false, reduceIte, Bool.not_true, Bool.not_false, Bool.false_eq_true, reduceCtorEq, loopF], h1, h2, by simp, by simp⟩
  | k :: ks, cs, s7, s10, h1, h2, h3 => by
    rw [List.length_cons] at h3
    obtain ⟨c, hc, e⟩ := puz_step2 ps cs hp hpl (by rw [List.length_map]; omega) k n s0 s1 s2 s3 s4 s5 s10
    have g1 : ∀ d ∈ (if c ∈ cs then cs else cs ++ [c]), CaseOk m d := fun d hd => by
      split at hd
      · exact h1 d hd
      · rcases List.mem_append.mp hd with hd | hd
        · exact h1 d hd
        · rw [List.mem_singleton] at hd; subst hd; exact hps _ hc
    have g2 : (if c ∈ cs then cs else cs ++ [c]).Nodup := by
      split
      · exact h2
      · rename_i hn
        refine List.nodup_append.mpr ⟨h2, by simp, fun a ha b hb => ?_⟩
        rw [List.mem_singleton] at hb
        subst hb
        exact fun z => hn (z ▸ ha)
    have g3 : (if c ∈ cs then cs else cs ++ [c]).length ≤ cs.length + 1 := by split <;> simp
    have g4 : 1 ≤ (if c ∈ cs then cs else cs ++ [c]).length := by
      split
      · rename_i hm; exact List.length_pos_of_mem hm
      · simp
    obtain ⟨cs', a, b, e', k1, k2, k3, k4⟩ := puz_loop2 ps hp hpl hps n s0 s1 s2 s3 s4 s5 ks (if c ∈ cs then cs else cs ++ [c]) (.val (.int k)) (.val (encC c)) g1 g2 (by omega)
    refine ⟨cs', a, b, ?_, k1, k2, by rw [List.length_cons]; omega, fun _ => k4 (by omega)⟩
    simp only [dIx_t0, dIx_t1, dIx_l0, dIx_l1, toItems, itemsOf, runF, runL, startE, endF, endL, R.bind_ok, R.bind_exc, R.bind_stuck, gSeq, gIf, gSet, gOwn, gRet, gRetL, gRetO, gDrop, gTgt, gT, gsC, gsN, gN, gFor, gApp, gExt, gFrz, gNil, gExc, eVar, eC, e1, e2, eA, aNil, aCons, eTup, eLst, eCall, lCall, listR, eChain, tV, tAndD, tOrD, tNotD, eAnd, eOr, eNot, eIf, eL, lDisp, lList, lRep, oNone, oSome, eSl, iSeq, iRng1, iRng2, iZipD, iEnumD, iRevD, lListRange, lLc, eSorted, eSortSet, eLenSet, eBor, tBor, tYesD, noE, toB, dCmp, dSub, dNeg, dInt, dLen, dIs, dIsNot, List.map_cons, List.map_nil, List.length_cons, List.length_nil, Nat.reduceAdd, Nat.reduceSub, Nat.reduceLeDiff, List.replicate, List.cons_append, List.nil_append, List.append_nil, List.getElem?_cons_zero, List.getElem?_cons_succ, List.set_cons_zero, List.set_cons_succ, if_true, if_false, reduceIte, Bool.not_true, Bool.not_false, Bool.false_eq_true, reduceCtorEq, loopF, e, e']
theorem rd_ints (j : Int) (h : 0 ≤ j) : ∃ ks : List Int, rangeD 0 j = ks.map PyData.int ∧ (∀ k ∈ ks, 0 ≤ k) ∧ (ks.length : Int) = j := by
  refine ⟨(List.range j.toNat).map fun i : Nat => (i : Int), ?_, fun k hk => ?_, ?_⟩
  · unfold rangeD
    rw [List.map_map, Int.sub_zero]
    refine List.map_congr_left fun i _ => ?_
    simp
  · obtain ⟨i, _, rfl⟩ := List.mem_map.mp hk
    omega
  · rw [List.length_map, List.length_range]
    omega
theorem most_eq {m : Nat} (hm : Many m) : ∃ v : Int, dIx (.list [.int 9, .int 12, .int 8, .int 5]) (.int ((m : Int) - 2)) = .ok (.int v) ∧ 1 ≤ v ∧ v ≤ 12 := by
  rcases hm with rfl | rfl | rfl | rfl
  · exact ⟨9, rfl, by decide, by decide⟩
  · exact ⟨12, rfl, by decide, by decide⟩
  · exact ⟨8, rfl, by decide, by decide⟩
  · exact ⟨5, rfl, by decide, by decide⟩
theorem many_eq (g : Int) (hg : 2 ≤ g) (n : Int) : ∃ (m : Nat) (v : Int), pick [.int 2, .int 3, .int 3, .int 4, .int 4, .int 5] n 6 = .int v ∧ dMin [.int g, .int v] = .ok (.int m) ∧ Many m ∧ (m : Int) ≤ g := by
  have h := pick_mem (xs := [.int 2, .int 3, .int 3, .int 4, .int 4, .int 5]) (c := n) (k := 6) rfl (by decide)
  obtain ⟨v, hv, h2⟩ : ∃ v : Int, pick [.int 2, .int 3, .int 3, .int 4, .int 4, .int 5] n 6 = .int v ∧ 2 ≤ v ∧ v ≤ 5 := by
    simp only [List.mem_cons, List.not_mem_nil, or_false] at h
    rcases h with h | h | h | h | h | h <;> exact ⟨_, h, by decide, by decide⟩
  refine ⟨(if v < g then v else g).toNat, v, hv, ?_, ?_, ?_⟩
  · simp only [dMin]
    congr 2
    split <;> omega
  · unfold Many
    split <;> omega
  · split <;> omega
theorem noE_ok' {α : Type} (a : α) : noE (R.ok a) = .ok a := rfl
theorem puzzle_ok (ns : List Int) (at_ g : Int) (h0 : 0 ≤ at_) (hg : 2 ≤ g) : ∃ (m : Nat) (cs : List (List Int)), F__law_puzzle [scriptD ns, .int at_, .int g] = .ok (.tuple [.int m, .list (cs.map encC)]) ∧ Many m ∧ (m : Int) ≤ g ∧ CasesOk m cs := by
  obtain ⟨m, v, k2, k3, hm, hmg⟩ := many_eq g hg (mixI ns at_)
  obtain ⟨mo, k4, mo1, mo2⟩ := most_eq hm
  obtain ⟨ks, r1, r2, r3⟩ := rd_ints 12 (by decide)
  have nn := mixI_nonneg ns at_
  obtain ⟨c1, t7, t8, l1, hc1, lc1⟩ := puz_loop1 ns at_ h0 hm ks [] (.val (.int g)) (.val (.int (mixI ns at_))) (.val (.int mo)) .no .no .no .no r2 (by simp) (by simp only [List.length_nil]; omega)
  have q1 : dEq (.int (mixI ns at_ / 36 / 256 % 4)) (.int 1) = .ok (.bool (decide (mixI ns at_ / 36 / 256 % 4 = 1))) := dEq_int _ _
  -- the pool
  obtain ⟨ps, hps, hpn, hpl, epool⟩ : ∃ ps : List (List Int), (∀ c ∈ ps, CaseOk m c) ∧ ps ≠ [] ∧ ps.length ≤ 60 ∧
      ((gIf (tV (e2 dGt (e2 dMod (e2 dDiv (eVar 3) (eC (.int 6))) (eC (.int 6))) (eC (.int 0)))) (gSet 6 (eCall 2 (listR F__law_pool) (aCons (eVar 4) (aCons (e2 dSub (e2 dMod (e2 dDiv (eVar 3) (eC (.int 6))) (eC (.int 6))) (eC (.int 1))) aNil)))) gNil : GS noObj)
        [.val (scriptD ns), .val (.int at_), .val (.int g), .val (.int (mixI ns at_)), .val (.int m), .val (.int mo), .val (.list (c1.map encC)), t7, t8, .no, .no, .no] =
        .ok (.nx, [.val (scriptD ns), .val (.int at_), .val (.int g), .val (.int (mixI ns at_)), .val (.int m), .val (.int mo), .val (.list (ps.map encC)), t7, t8, .no, .no, .no])) := by
    by_cases hk : 0 < mixI ns at_ / 6 % 6
    · obtain ⟨ps, p1, p2, p3, p4⟩ := pool_ok hm (mixI ns at_ / 6 % 6 - 1).toNat (by omega)
      have p5 : F__law_pool [.int m, .int (mixI ns at_ / 6 % 6 - 1)] = .ok (ps.map encC) := by
        rw [← p1]
        congr 4
        omega
      exact ⟨ps, p2, p3, p4, by simp only [dIx_pick, dMod, dDiv, dList, dTuple, dRev, dSl, Int.reduceLT, Int.reduceLE, Int.reduceEq, Int.reduceSub, Int.reduceAdd, and_self, true_and, and_true, and_false, false_and, Int.cast_ofNat_Int, decide_true, decide_false, Bool.true_and, Bool.false_and, Bool.and_true, Bool.and_false, dIx_t0, dIx_t1, dIx_l0, dIx_l1, toItems, itemsOf, runF, runL, startE, endF, endL, R.bind_ok, R.bind_exc, R.bind_stuck, gSeq, gIf, gSet, gOwn, gRet, gRetL, gRetO, gDrop, gTgt, gT, gsC, gsN, gN, gFor, gApp, gExt, gFrz, gNil, gExc, eVar, eC, e1, e2, eA, aNil, aCons, eTup, eLst, eCall, lCall, listR, eChain, tV, tAndD, tOrD, tNotD, eAnd, eOr, eNot, eIf, eL, lDisp, lList, lRep, oNone, oSome, eSl, iSeq, iRng1, iRng2, iZipD, iEnumD, iRevD, lListRange, lLc, eSorted, eSortSet, eLenSet, eBor, tBor, tYesD, noE, toB, dCmp, dSub, dNeg, dInt, dLen, dIs, dIsNot, List.map_cons, List.map_nil, List.length_cons, List.length_nil, Nat.reduceAdd, Nat.reduceSub, Nat.reduceLeDiff, List.replicate, List.cons_append, List.nil_append, List.append_nil, List.getElem?_cons_zero, List.getElem?_cons_succ, List.set_cons_zero, List.set_cons_succ, if_true, if_false, reduceIte, Bool.not_true, Bool.not_false, Bool.false_eq_true, reduceCtorEq, decide_eq_true hk, p5]⟩
    · refine ⟨c1, hc1, fun e => ?_, by simp only [List.length_nil] at lc1; omega, by simp only [dIx_pick, dMod, dDiv, dList, dTuple, dRev, dSl, Int.reduceLT, Int.reduceLE, Int.reduceEq, Int.reduceSub, Int.reduceAdd, and_self, true_and, and_true, and_false, false_and, Int.cast_ofNat_Int, decide_true, decide_false, Bool.true_and, Bool.false_and, Bool.and_true, Bool.and_false, dIx_t0, dIx_t1, dIx_l0, dIx_l1, toItems, itemsOf, runF, runL, startE, endF, endL, R.bind_ok, R.bind_exc, R.bind_stuck, gSeq, gIf, gSet, gOwn, gRet, gRetL, gRetO, gDrop, gTgt, gT, gsC, gsN, gN, gFor, gApp, gExt, gFrz, gNil, gExc, eVar, eC, e1, e2, eA, aNil, aCons, eTup, eLst, eCall, lCall, listR, eChain, tV, tAndD, tOrD, tNotD, eAnd, eOr, eNot, eIf, eL, lDisp, lList, lRep, oNone, oSome, eSl, iSeq, iRng1, iRng2, iZipD, iEnumD, iRevD, lListRange, lLc, eSorted, eSortSet, eLenSet, eBor, tBor, tYesD, noE, toB, dCmp, dSub, dNeg, dInt, dLen, dIs, dIsNot, List.map_cons, List.map_nil, List.length_cons, List.length_nil, Nat.reduceAdd, Nat.reduceSub, Nat.reduceLeDiff, List.replicate, List.cons_append, List.nil_append, List.append_nil, List.getElem?_cons_zero, List.getElem?_cons_succ, List.set_cons_zero, List.set_cons_succ, if_true, if_false, reduceIte, Bool.not_true, Bool.not_false, Bool.false_eq_true, reduceCtorEq, decide_eq_false hk]⟩
      subst e
      simp only [List.length_nil] at lc1
      omega
  -- how many at most
  obtain ⟨mo', mo1', mo2', emost⟩ : ∃ mo' : Int, 1 ≤ mo' ∧ mo' ≤ 12 ∧ ((gIf (tAndD (tV (e2 dGt (eVar 4) (eC (.int 3)))) (tAndD (tV (e2 dEq (e2 dMod (e2 dDiv (eVar 8) (eC (.int 256))) (eC (.int 4))) (eC (.int 1)))) (tV (e2 dGt (e2 dMod (e2 dDiv (eVar 3) (eC (.int 6))) (eC (.int 6))) (eC (.int 0)))))) (gSet 5 (eC (.int 12))) gNil : GS noObj)
        [.val (scriptD ns), .val (.int at_), .val (.int g), .val (.int (mixI ns at_)), .val (.int m), .val (.int mo), .val (.list (ps.map encC)), t7, .val (.int (mixI ns at_ / 36)), .own [], .no, .no] =
        .ok (.nx, [.val (scriptD ns), .val (.int at_), .val (.int g), .val (.int (mixI ns at_)), .val (.int m), .val (.int mo'), .val (.list (ps.map encC)), t7, .val (.int (mixI ns at_ / 36)), .own [], .no, .no])) := by
    by_cases a1 : (3 : Int) < m
    · by_cases a2 : mixI ns at_ / 36 / 256 % 4 = 1
      · by_cases a3 : 0 < mixI ns at_ / 6 % 6
        · exact ⟨12, by decide, by decide, by simp only [dIx_pick, dMod, dDiv, dList, dTuple, dRev, dSl, Int.reduceLT, Int.reduceLE, Int.reduceEq, Int.reduceSub, Int.reduceAdd, and_self, true_and, and_true, and_false, false_and, Int.cast_ofNat_Int, decide_true, decide_false, Bool.true_and, Bool.false_and, Bool.and_true, Bool.and_false, dIx_t0, dIx_t1, dIx_l0, dIx_l1, toItems, itemsOf, runF, runL, startE, endF, endL, R.bind_ok, R.bind_exc, R.bind_stuck, gSeq, gIf, gSet, gOwn, gRet, gRetL, gRetO, gDrop, gTgt, gT, gsC, gsN, gN, gFor, gApp, gExt, gFrz, gNil, gExc, eVar, eC, e1, e2, eA, aNil, aCons, eTup, eLst, eCall, lCall, listR, eChain, tV, tAndD, tOrD, tNotD, eAnd, eOr, eNot, eIf, eL, lDisp, lList, lRep, oNone, oSome, eSl, iSeq, iRng1, iRng2, iZipD, iEnumD, iRevD, lListRange, lLc, eSorted, eSortSet, eLenSet, eBor, tBor, tYesD, noE, toB, dCmp, dSub, dNeg, dInt, dLen, dIs, dIsNot, List.map_cons, List.map_nil, List.length_cons, List.length_nil, Nat.reduceAdd, Nat.reduceSub, Nat.reduceLeDiff, List.replicate, List.cons_append, List.nil_append, List.append_nil, List.getElem?_cons_zero, List.getElem?_cons_succ, List.set_cons_zero, List.set_cons_succ, if_true, if_false, reduceIte, Bool.not_true, Bool.not_false, Bool.false_eq_true, reduceCtorEq, decide_eq_true a1, decide_eq_true a2, decide_eq_true a3, q1]⟩
        · exact ⟨mo, mo1, mo2, by simp only [dIx_pick, dMod, dDiv, dList, dTuple, dRev, dSl, Int.reduceLT, Int.reduceLE, Int.reduceEq, Int.reduceSub, Int.reduceAdd, and_self, true_and, and_true, and_false, false_and, Int.cast_ofNat_Int, decide_true, decide_false, Bool.true_and, Bool.false_and, Bool.and_true, Bool.and_false, dIx_t0, dIx_t1, dIx_l0, dIx_l1, toItems, itemsOf, runF, runL, startE, endF, endL, R.bind_ok, R.bind_exc, R.bind_stuck, gSeq, gIf, gSet, gOwn, gRet, gRetL, gRetO, gDrop, gTgt, gT, gsC, gsN, gN, gFor, gApp, gExt, gFrz, gNil, gExc, eVar, eC, e1, e2, eA, aNil, aCons, eTup, eLst, eCall, lCall, listR, eChain, tV, tAndD, tOrD, tNotD, eAnd, eOr, eNot, eIf, eL, lDisp, lList, lRep, oNone, oSome, eSl, iSeq, iRng1, iRng2, iZipD, iEnumD, iRevD, lListRange, lLc, eSorted, eSortSet, eLenSet, eBor, tBor, tYesD, noE, toB, dCmp, dSub, dNeg, dInt, dLen, dIs, dIsNot, List.map_cons, List.map_nil, List.length_cons, List.length_nil, Nat.reduceAdd, Nat.reduceSub, Nat.reduceLeDiff, List.replicate, List.cons_append, List.nil_append, List.append_nil, List.getElem?_cons_zero, List.getElem?_cons_succ, List.set_cons_zero, List.set_cons_succ, if_true, if_false, reduceIte, Bool.not_true, Bool.not_false, Bool.false_eq_true, reduceCtorEq, decide_eq_true a1, decide_eq_true a2, decide_eq_false a3, q1]⟩
      · exact ⟨mo, mo1, mo2, by simp only [dIx_pick, dMod, dDiv, dList, dTuple, dRev, dSl, Int.reduceLT, Int.reduceLE, Int.reduceEq, Int.reduceSub, Int.reduceAdd, and_self, true_and, and_true, and_false, false_and, Int.cast_ofNat_Int, decide_true, decide_false, Bool.true_and, Bool.false_and, Bool.and_true, Bool.and_false, dIx_t0, dIx_t1, dIx_l0, dIx_l1, toItems, itemsOf, runF, runL, startE, endF, endL, R.bind_ok, R.bind_exc, R.bind_stuck, gSeq, gIf, gSet, gOwn, gRet, gRetL, gRetO, gDrop, gTgt, gT, gsC, gsN, gN, gFor, gApp, gExt, gFrz, gNil, gExc, eVar, eC, e1, e2, eA, aNil, aCons, eTup, eLst, eCall, lCall, listR, eChain, tV, tAndD, tOrD, tNotD, eAnd, eOr, eNot, eIf, eL, lDisp, lList, lRep, oNone, oSome, eSl, iSeq, iRng1, iRng2, iZipD, iEnumD, iRevD, lListRange, lLc, eSorted, eSortSet, eLenSet, eBor, tBor, tYesD, noE, toB, dCmp, dSub, dNeg, dInt, dLen, dIs, dIsNot, List.map_cons, List.map_nil, List.length_cons, List.length_nil, Nat.reduceAdd, Nat.reduceSub, Nat.reduceLeDiff, List.replicate, List.cons_append, List.nil_append, List.append_nil, List.getElem?_cons_zero, List.getElem?_cons_succ, List.set_cons_zero, List.set_cons_succ, if_true, if_false, reduceIte, Bool.not_true, Bool.not_false, Bool.false_eq_true, reduceCtorEq, decide_eq_true a1, decide_eq_false a2, q1]⟩
    · exact ⟨mo, mo1, mo2, by simp only [dIx_pick, dMod, dDiv, dList, dTuple, dRev, dSl, Int.reduceLT, Int.reduceLE, Int.reduceEq, Int.reduceSub, Int.reduceAdd, and_self, true_and, and_true, and_false, false_and, Int.cast_ofNat_Int, decide_true, decide_false, Bool.true_and, Bool.false_and, Bool.and_true, Bool.and_false, dIx_t0, dIx_t1, dIx_l0, dIx_l1, toItems, itemsOf, runF, runL, startE, endF, endL, R.bind_ok, R.bind_exc, R.bind_stuck, gSeq, gIf, gSet, gOwn, gRet, gRetL, gRetO, gDrop, gTgt, gT, gsC, gsN, gN, gFor, gApp, gExt, gFrz, gNil, gExc, eVar, eC, e1, e2, eA, aNil, aCons, eTup, eLst, eCall, lCall, listR, eChain, tV, tAndD, tOrD, tNotD, eAnd, eOr, eNot, eIf, eL, lDisp, lList, lRep, oNone, oSome, eSl, iSeq, iRng1, iRng2, iZipD, iEnumD, iRevD, lListRange, lLc, eSorted, eSortSet, eLenSet, eBor, tBor, tYesD, noE, toB, dCmp, dSub, dNeg, dInt, dLen, dIs, dIsNot, List.map_cons, List.map_nil, List.length_cons, List.length_nil, Nat.reduceAdd, Nat.reduceSub, Nat.reduceLeDiff, List.replicate, List.cons_append, List.nil_append, List.append_nil, List.getElem?_cons_zero, List.getElem?_cons_succ, List.set_cons_zero, List.set_cons_succ, if_true, if_false, reduceIte, Bool.not_true, Bool.not_false, Bool.false_eq_true, reduceCtorEq, decide_eq_false a1]⟩
  -- how many
  have hmo : (0 : Int) < mo' := by omega
  obtain ⟨j, j1, j2, ecnt⟩ : ∃ j : Int, 1 ≤ j ∧ j ≤ 12 ∧ (e2 dIx (eLst (aCons (e2 dAdd (eC (.int 1)) (e2 dMod (eVar 8) (eVar 5))) (aCons (eVar 5) aNil))) (eA dInt (aCons (eAnd (e2 dEq (eVar 5) (eC (.int 12))) (e2 dGt (eVar 4) (eC (.int 3)))) aNil)) : Env noObj → R D)
        [.val (scriptD ns), .val (.int at_), .val (.int g), .val (.int (mixI ns at_)), .val (.int m), .val (.int mo'), .val (.list (ps.map encC)), t7, .val (.int (mixI ns at_ / 36)), .own [], .no, .no] = .ok (.int j) := by
    have b0 := Int.emod_nonneg (mixI ns at_ / 36) (show mo' ≠ 0 by omega)
    have b1 := Int.emod_lt_of_pos (mixI ns at_ / 36) hmo
    by_cases a1 : mo' = 12
    · by_cases a2 : (3 : Int) < m
      · exact ⟨mo', mo1', mo2', by simp only [dIx_pick, dMod, dDiv, dList, dTuple, dRev, dSl, Int.reduceLT, Int.reduceLE, Int.reduceEq, Int.reduceSub, Int.reduceAdd, and_self, true_and, and_true, and_false, false_and, Int.cast_ofNat_Int, decide_true, decide_false, Bool.true_and, Bool.false_and, Bool.and_true, Bool.and_false, dIx_t0, dIx_t1, dIx_l0, dIx_l1, toItems, itemsOf, runF, runL, startE, endF, endL, R.bind_ok, R.bind_exc, R.bind_stuck, gSeq, gIf, gSet, gOwn, gRet, gRetL, gRetO, gDrop, gTgt, gT, gsC, gsN, gN, gFor, gApp, gExt, gFrz, gNil, gExc, eVar, eC, e1, e2, eA, aNil, aCons, eTup, eLst, eCall, lCall, listR, eChain, tV, tAndD, tOrD, tNotD, eAnd, eOr, eNot, eIf, eL, lDisp, lList, lRep, oNone, oSome, eSl, iSeq, iRng1, iRng2, iZipD, iEnumD, iRevD, lListRange, lLc, eSorted, eSortSet, eLenSet, eBor, tBor, tYesD, noE, toB, dCmp, dSub, dNeg, dInt, dLen, dIs, dIsNot, List.map_cons, List.map_nil, List.length_cons, List.length_nil, Nat.reduceAdd, Nat.reduceSub, Nat.reduceLeDiff, List.replicate, List.cons_append, List.nil_append, List.append_nil, List.getElem?_cons_zero, List.getElem?_cons_succ, List.set_cons_zero, List.set_cons_succ, if_true, if_false, reduceIte, Bool.not_true, Bool.not_false, Bool.false_eq_true, reduceCtorEq, dEq_int, decide_eq_true a1, decide_eq_true a2, hmo, dAdd]⟩
      · exact ⟨1 + mixI ns at_ / 36 % mo', by omega, by omega, by simp only [dIx_pick, dMod, dDiv, dList, dTuple, dRev, dSl, Int.reduceLT, Int.reduceLE, Int.reduceEq, Int.reduceSub, Int.reduceAdd, and_self, true_and, and_true, and_false, false_and, Int.cast_ofNat_Int, decide_true, decide_false, Bool.true_and, Bool.false_and, Bool.and_true, Bool.and_false, dIx_t0, dIx_t1, dIx_l0, dIx_l1, toItems, itemsOf, runF, runL, startE, endF, endL, R.bind_ok, R.bind_exc, R.bind_stuck, gSeq, gIf, gSet, gOwn, gRet, gRetL, gRetO, gDrop, gTgt, gT, gsC, gsN, gN, gFor, gApp, gExt, gFrz, gNil, gExc, eVar, eC, e1, e2, eA, aNil, aCons, eTup, eLst, eCall, lCall, listR, eChain, tV, tAndD, tOrD, tNotD, eAnd, eOr, eNot, eIf, eL, lDisp, lList, lRep, oNone, oSome, eSl, iSeq, iRng1, iRng2, iZipD, iEnumD, iRevD, lListRange, lLc, eSorted, eSortSet, eLenSet, eBor, tBor, tYesD, noE, toB, dCmp, dSub, dNeg, dInt, dLen, dIs, dIsNot, List.map_cons, List.map_nil, List.length_cons, List.length_nil, Nat.reduceAdd, Nat.reduceSub, Nat.reduceLeDiff, List.replicate, List.cons_append, List.nil_append, List.append_nil, List.getElem?_cons_zero, List.getElem?_cons_succ, List.set_cons_zero, List.set_cons_succ, if_true, if_false, reduceIte, Bool.not_true, Bool.not_false, Bool.false_eq_true, reduceCtorEq, dEq_int, decide_eq_true a1, decide_eq_false a2, hmo, dAdd]⟩
    · exact ⟨1 + mixI ns at_ / 36 % mo', by omega, by omega, by simp only [dIx_pick, dMod, dDiv, dList, dTuple, dRev, dSl, Int.reduceLT, Int.reduceLE, Int.reduceEq, Int.reduceSub, Int.reduceAdd, and_self, true_and, and_true, and_false, false_and, Int.cast_ofNat_Int, decide_true, decide_false, Bool.true_and, Bool.false_and, Bool.and_true, Bool.and_false, dIx_t0, dIx_t1, dIx_l0, dIx_l1, toItems, itemsOf, runF, runL, startE, endF, endL, R.bind_ok, R.bind_exc, R.bind_stuck, gSeq, gIf, gSet, gOwn, gRet, gRetL, gRetO, gDrop, gTgt, gT, gsC, gsN, gN, gFor, gApp, gExt, gFrz, gNil, gExc, eVar, eC, e1, e2, eA, aNil, aCons, eTup, eLst, eCall, lCall, listR, eChain, tV, tAndD, tOrD, tNotD, eAnd, eOr, eNot, eIf, eL, lDisp, lList, lRep, oNone, oSome, eSl, iSeq, iRng1, iRng2, iZipD, iEnumD, iRevD, lListRange, lLc, eSorted, eSortSet, eLenSet, eBor, tBor, tYesD, noE, toB, dCmp, dSub, dNeg, dInt, dLen, dIs, dIsNot, List.map_cons, List.map_nil, List.length_cons, List.length_nil, Nat.reduceAdd, Nat.reduceSub, Nat.reduceLeDiff, List.replicate, List.cons_append, List.nil_append, List.append_nil, List.getElem?_cons_zero, List.getElem?_cons_succ, List.set_cons_zero, List.set_cons_succ, if_true, if_false, reduceIte, Bool.not_true, Bool.not_false, Bool.false_eq_true, reduceCtorEq, dEq_int, decide_eq_false a1, hmo, dAdd]⟩
  obtain ⟨js, u1, u2, u3⟩ := rd_ints j (by omega)
  obtain ⟨cs, x7, x10, l2, v1, v2, v3, v4⟩ := puz_loop2 ps hpn hpl hps (mixI ns at_ / 36) (.val (scriptD ns)) (.val (.int at_)) (.val (.int g)) (.val (.int (mixI ns at_))) (.val (.int m)) (.val (.int mo')) js [] t7 .no (by simp) (by simp) (by simp only [List.length_nil]; omega)
  simp only [List.length_nil] at v3 v4
  refine ⟨m, cs, ?_, hm, hmg, ⟨v1, v2, v4 (by omega), by omega⟩⟩
  unfold F__law_puzzle g__law_puzzle
  generalize hG1 : (gIf (tV (e2 dGt (e2 dMod (e2 dDiv (eVar 3) (eC (.int 6))) (eC (.int 6))) (eC (.int 0)))) (gSet 6 (eCall 2 (listR F__law_pool) (aCons (eVar 4) (aCons (e2 dSub (e2 dMod (e2 dDiv (eVar 3) (eC (.int 6))) (eC (.int 6))) (eC (.int 1))) aNil)))) gNil : GS noObj) = G1 at epool ⊢
  generalize hG2 : (gIf (tAndD (tV (e2 dGt (eVar 4) (eC (.int 3)))) (tAndD (tV (e2 dEq (e2 dMod (e2 dDiv (eVar 8) (eC (.int 256))) (eC (.int 4))) (eC (.int 1)))) (tV (e2 dGt (e2 dMod (e2 dDiv (eVar 3) (eC (.int 6))) (eC (.int 6))) (eC (.int 0)))))) (gSet 5 (eC (.int 12))) gNil : GS noObj) = G2 at emost ⊢
  generalize hG3 : (e2 dIx (eLst (aCons (e2 dAdd (eC (.int 1)) (e2 dMod (eVar 8) (eVar 5))) (aCons (eVar 5) aNil))) (eA dInt (aCons (eAnd (e2 dEq (eVar 5) (eC (.int 12))) (e2 dGt (eVar 4) (eC (.int 3)))) aNil)) : Env noObj → R D) = G3 at ecnt ⊢
  have jj : (-100000 ≤ j ∧ j ≤ 100000) := by omega
  simp only [dIx_pick, dMod, dDiv, dList, dTuple, dRev, dSl, Int.reduceLT, Int.reduceLE, Int.reduceEq, Int.reduceSub, Int.reduceAdd, and_self, true_and, and_true, and_false, false_and, Int.cast_ofNat_Int, decide_true, decide_false, Bool.true_and, Bool.false_and, Bool.and_true, Bool.and_false, dIx_t0, dIx_t1, dIx_l0, dIx_l1, toItems, itemsOf, runF, runL, startE, endF, endL, R.bind_ok, R.bind_exc, R.bind_stuck, gSeq, gIf, gSet, gOwn, gRet, gRetL, gRetO, gDrop, gTgt, gT, gsC, gsN, gN, gFor, gApp, gExt, gFrz, gNil, gExc, eVar, eC, e1, e2, eA, aNil, aCons, eTup, eLst, eCall, lCall, listR, eChain, tV, tAndD, tOrD, tNotD, eAnd, eOr, eNot, eIf, eL, lDisp, lList, lRep, oNone, oSome, eSl, iSeq, iRng1, iRng2, iZipD, iEnumD, iRevD, lListRange, lLc, eSorted, eSortSet, eLenSet, eBor, tBor, tYesD, noE, toB, dCmp, dSub, dNeg, dInt, dLen, dIs, dIsNot, List.map_cons, List.map_nil, List.length_cons, List.length_nil, Nat.reduceAdd, Nat.reduceSub, Nat.reduceLeDiff, List.replicate, List.cons_append, List.nil_append, List.append_nil, List.getElem?_cons_zero, List.getElem?_cons_succ, List.set_cons_zero, List.set_cons_succ, if_true, if_false, reduceIte, Bool.not_true, Bool.not_false, Bool.false_eq_true, reduceCtorEq, mixed_eq ns at_ h0, k2, k3, k4, r1]
  simp only [List.map_nil] at l1 l2
  simp only [dIx_pick, dMod, dDiv, dList, dTuple, dRev, dSl, Int.reduceLT, Int.reduceLE, Int.reduceEq, Int.reduceSub, Int.reduceAdd, and_self, true_and, and_true, and_false, false_and, Int.cast_ofNat_Int, decide_true, decide_false, Bool.true_and, Bool.false_and, Bool.and_true, Bool.and_false, dIx_t0, dIx_t1, dIx_l0, dIx_l1, toItems, itemsOf, runF, runL, startE, endF, endL, R.bind_ok, R.bind_exc, R.bind_stuck, gSeq, gIf, gSet, gOwn, gRet, gRetL, gRetO, gDrop, gTgt, gT, gsC, gsN, gN, gFor, gApp, gExt, gFrz, gNil, gExc, eVar, eC, e1, e2, eA, aNil, aCons, eTup, eLst, eCall, lCall, listR, eChain, tV, tAndD, tOrD, tNotD, eAnd, eOr, eNot, eIf, eL, lDisp, lList, lRep, oNone, oSome, eSl, iSeq, iRng1, iRng2, iZipD, iEnumD, iRevD, lListRange, lLc, eSorted, eSortSet, eLenSet, eBor, tBor, tYesD, noE, toB, dCmp, dSub, dNeg, dInt, dLen, dIs, dIsNot, List.map_cons, List.map_nil, List.length_cons, List.length_nil, Nat.reduceAdd, Nat.reduceSub, Nat.reduceLeDiff, List.replicate, List.cons_append, List.nil_append, List.append_nil, List.getElem?_cons_zero, List.getElem?_cons_succ, List.set_cons_zero, List.set_cons_succ, if_true, if_false, reduceIte, Bool.not_true, Bool.not_false, Bool.false_eq_true, reduceCtorEq, l1, epool, emost, ecnt, jj, u1, l2]
end W

set_option Elab.async false
set_option linter.all false
set_option maxRecDepth 100000
set_option maxHeartbeats 1000000
namespace W
open PySem PL
/-! ### is_pan -/
def riseD (m : Int) : Option Int → List D → Bool
  | _, [] => true
  | p, .int z :: r => decide (0 ≤ z) && decide (z ≤ m - 1) && (match p with | some q => decide (q < z) | none => true) && riseD m (some z) r
  | _, _ :: _ => false
def isPan (m : Int) : D → Bool
  | .tuple xs => !xs.isEmpty && riseD m none xs
  | _ => false
def ltO : Option Int → D → Bool
  | some q, .int z => decide (q < z)
  | _, _ => true
def riseD_cons (m : Int) (p : Option Int) (z : D) (r : List D) : Bool := amongB 0 (m - 1) z && ltO p z && (match z with | .int z => riseD m (some z) r | _ => false)
theorem riseD_eq (m : Int) (p : Option Int) (z : D) (r : List D) : riseD m p (z :: r) = riseD_cons m p z r := by
  cases z <;> cases p <;> simp [riseD, riseD_cons, amongB, ltO]
theorem pan_step (m : Int) (full : List D) (k : Nat) (z : D) (p : Option Int) (hz : tyD z ≠ none) (hp : (k = 0 ∧ p = none) ∨ (∃ q, p = some q ∧ 0 < k ∧ full[k - 1]? = some (.int q))) :
    g_is_pan_L1 [.val (.int m), .val (.tuple full), .val (.int k), .val z] =
      if (amongB 0 (m - 1) z && ltO p z) = true then .ok (.nx, [.val (.int m), .val (.tuple full), .val (.int k), .val z])
      else .ok (.rt (.bool false), [.val (.int m), .val (.tuple full), .val (.int k), .val z]) := by
  unfold g_is_pan_L1
  simp only [dIx_t0, dIx_t1, dIx_l0, dIx_l1, toItems, itemsOf, runF, runL, startE, endF, endL, R.bind_ok, R.bind_exc, R.bind_stuck, gSeq, gIf, gSet, gOwn, gRet, gRetL, gRetO, gDrop, gTgt, gT, gsC, gsN, gN, gFor, gApp, gExt, gFrz, gNil, gExc, eVar, eC, e1, e2, eA, aNil, aCons, eTup, eLst, eCall, lCall, listR, eChain, tV, tAndD, tOrD, tNotD, eAnd, eOr, eNot, eIf, eL, lDisp, lList, lRep, oNone, oSome, eSl, iSeq, iRng1, iRng2, iZipD, iEnumD, iRevD, lListRange, lLc, eSorted, eSortSet, eLenSet, eBor, tBor, tYesD, noE, toB, dCmp, dSub, dNeg, dInt, dLen, dIs, dIsNot, List.map_cons, List.map_nil, List.length_cons, List.length_nil, Nat.reduceAdd, Nat.reduceSub, Nat.reduceLeDiff, List.replicate, List.cons_append, List.nil_append, List.append_nil, List.getElem?_cons_zero, List.getElem?_cons_succ, List.set_cons_zero, List.set_cons_succ, if_true, if_false, reduceIte, Bool.not_true, Bool.not_false, Bool.false_eq_true, reduceCtorEq, F_is_among_eq z hz]
  cases z
  case int z =>
    rcases hp with ⟨rfl, rfl⟩ | ⟨q, rfl, hk, hq⟩
    · cases h : amongB 0 (m - 1) (.int z) <;> simp only [dIx_t0, dIx_t1, dIx_l0, dIx_l1, toItems, itemsOf, runF, runL, startE, endF, endL, R.bind_ok, R.bind_exc, R.bind_stuck, gSeq, gIf, gSet, gOwn, gRet, gRetL, gRetO, gDrop, gTgt, gT, gsC, gsN, gN, gFor, gApp, gExt, gFrz, gNil, gExc, eVar, eC, e1, e2, eA, aNil, aCons, eTup, eLst, eCall, lCall, listR, eChain, tV, tAndD, tOrD, tNotD, eAnd, eOr, eNot, eIf, eL, lDisp, lList, lRep, oNone, oSome, eSl, iSeq, iRng1, iRng2, iZipD, iEnumD, iRevD, lListRange, lLc, eSorted, eSortSet, eLenSet, eBor, tBor, tYesD, noE, toB, dCmp, dSub, dNeg, dInt, dLen, dIs, dIsNot, List.map_cons, List.map_nil, List.length_cons, List.length_nil, Nat.reduceAdd, Nat.reduceSub, Nat.reduceLeDiff, List.replicate, List.cons_append, List.nil_append, List.append_nil, List.getElem?_cons_zero, List.getElem?_cons_succ, List.set_cons_zero, List.set_cons_succ, if_true, if_false, reduceIte, Bool.not_true, Bool.not_false, Bool.false_eq_true, reduceCtorEq, Bool.and_true, Bool.true_and, Bool.false_and, Int.natCast_zero, Int.lt_irrefl, decide_false, decide_true, ltO]
      all_goals rfl
    · have e1 : (((k : Nat) : Int) - 1).toNat = k - 1 := by omega
      have e2 : decide ((0 : Int) < (k : Nat)) = true := decide_eq_true (by omega)
      rw [dIx_tup (i := ((k : Nat) : Int) - 1) (y := .int q) (by omega) (by rw [e1]; exact hq)]
      cases h : amongB 0 (m - 1) (.int z) <;> simp only [dIx_t0, dIx_t1, dIx_l0, dIx_l1, toItems, itemsOf, runF, runL, startE, endF, endL, R.bind_ok, R.bind_exc, R.bind_stuck, gSeq, gIf, gSet, gOwn, gRet, gRetL, gRetO, gDrop, gTgt, gT, gsC, gsN, gN, gFor, gApp, gExt, gFrz, gNil, gExc, eVar, eC, e1, e2, eA, aNil, aCons, eTup, eLst, eCall, lCall, listR, eChain, tV, tAndD, tOrD, tNotD, eAnd, eOr, eNot, eIf, eL, lDisp, lList, lRep, oNone, oSome, eSl, iSeq, iRng1, iRng2, iZipD, iEnumD, iRevD, lListRange, lLc, eSorted, eSortSet, eLenSet, eBor, tBor, tYesD, noE, toB, dCmp, dSub, dNeg, dInt, dLen, dIs, dIsNot, List.map_cons, List.map_nil, List.length_cons, List.length_nil, Nat.reduceAdd, Nat.reduceSub, Nat.reduceLeDiff, List.replicate, List.cons_append, List.nil_append, List.append_nil, List.getElem?_cons_zero, List.getElem?_cons_succ, List.set_cons_zero, List.set_cons_succ, if_true, if_false, reduceIte, Bool.not_true, Bool.not_false, Bool.false_eq_true, reduceCtorEq, e2, Bool.true_and, Bool.false_and, ltO]
      by_cases h2 : q < z
      · simp only [dIx_t0, dIx_t1, dIx_l0, dIx_l1, toItems, itemsOf, runF, runL, startE, endF, endL, R.bind_ok, R.bind_exc, R.bind_stuck, gSeq, gIf, gSet, gOwn, gRet, gRetL, gRetO, gDrop, gTgt, gT, gsC, gsN, gN, gFor, gApp, gExt, gFrz, gNil, gExc, eVar, eC, e1, e2, eA, aNil, aCons, eTup, eLst, eCall, lCall, listR, eChain, tV, tAndD, tOrD, tNotD, eAnd, eOr, eNot, eIf, eL, lDisp, lList, lRep, oNone, oSome, eSl, iSeq, iRng1, iRng2, iZipD, iEnumD, iRevD, lListRange, lLc, eSorted, eSortSet, eLenSet, eBor, tBor, tYesD, noE, toB, dCmp, dSub, dNeg, dInt, dLen, dIs, dIsNot, List.map_cons, List.map_nil, List.length_cons, List.length_nil, Nat.reduceAdd, Nat.reduceSub, Nat.reduceLeDiff, List.replicate, List.cons_append, List.nil_append, List.append_nil, List.getElem?_cons_zero, List.getElem?_cons_succ, List.set_cons_zero, List.set_cons_succ, if_true, if_false, reduceIte, Bool.not_true, Bool.not_false, Bool.false_eq_true, reduceCtorEq, h2, decide_true, show ¬ z ≤ q by omega, decide_false]
      · simp only [dIx_t0, dIx_t1, dIx_l0, dIx_l1, toItems, itemsOf, runF, runL, startE, endF, endL, R.bind_ok, R.bind_exc, R.bind_stuck, gSeq, gIf, gSet, gOwn, gRet, gRetL, gRetO, gDrop, gTgt, gT, gsC, gsN, gN, gFor, gApp, gExt, gFrz, gNil, gExc, eVar, eC, e1, e2, eA, aNil, aCons, eTup, eLst, eCall, lCall, listR, eChain, tV, tAndD, tOrD, tNotD, eAnd, eOr, eNot, eIf, eL, lDisp, lList, lRep, oNone, oSome, eSl, iSeq, iRng1, iRng2, iZipD, iEnumD, iRevD, lListRange, lLc, eSorted, eSortSet, eLenSet, eBor, tBor, tYesD, noE, toB, dCmp, dSub, dNeg, dInt, dLen, dIs, dIsNot, List.map_cons, List.map_nil, List.length_cons, List.length_nil, Nat.reduceAdd, Nat.reduceSub, Nat.reduceLeDiff, List.replicate, List.cons_append, List.nil_append, List.append_nil, List.getElem?_cons_zero, List.getElem?_cons_succ, List.set_cons_zero, List.set_cons_succ, if_true, if_false, reduceIte, Bool.not_true, Bool.not_false, Bool.false_eq_true, reduceCtorEq, h2, decide_false, show z ≤ q by omega, decide_true]
  all_goals simp only [dIx_t0, dIx_t1, dIx_l0, dIx_l1, toItems, itemsOf, runF, runL, startE, endF, endL, R.bind_ok, R.bind_exc, R.bind_stuck, gSeq, gIf, gSet, gOwn, gRet, gRetL, gRetO, gDrop, gTgt, gT, gsC, gsN, gN, gFor, gApp, gExt, gFrz, gNil, gExc, eVar, eC, e1, e2, eA, aNil, aCons, eTup, eLst, eCall, lCall, listR, eChain, tV, tAndD, tOrD, tNotD, eAnd, eOr, eNot, eIf, eL, lDisp, lList, lRep, oNone, oSome, eSl, iSeq, iRng1, iRng2, iZipD, iEnumD, iRevD, lListRange, lLc, eSorted, eSortSet, eLenSet, eBor, tBor, tYesD, noE, toB, dCmp, dSub, dNeg, dInt, dLen, dIs, dIsNot, List.map_cons, List.map_nil, List.length_cons, List.length_nil, Nat.reduceAdd, Nat.reduceSub, Nat.reduceLeDiff, List.replicate, List.cons_append, List.nil_append, List.append_nil, List.getElem?_cons_zero, List.getElem?_cons_succ, List.set_cons_zero, List.set_cons_succ, if_true, if_false, reduceIte, Bool.not_true, Bool.not_false, Bool.false_eq_true, reduceCtorEq, amongB, Bool.false_and]
theorem pan_loop (m : Int) (full : List D) : ∀ (suf : List D) (k : Nat) (p : Option Int) (s2 s3 : PL.Slot noObj), full.drop k = suf → (∀ x ∈ suf, tyD x ≠ none) → ((k = 0 ∧ p = none) ∨ (∃ q, p = some q ∧ 0 < k ∧ full[k - 1]? = some (.int q))) →
    ∃ s2' s3', loopF (gT 2 (gsC (gN 2) (gsC (gN 3) gsN))) g_is_pan_L1 (enumFrom k suf) [.val (.int m), .val (.tuple full), s2, s3] =
      if riseD m p suf = true then .ok (.nx, [.val (.int m), .val (.tuple full), s2', s3']) else .ok (.rt (.bool false), [.val (.int m), .val (.tuple full), s2', s3'])
  | [], k, p, s2, s3, _, _, _ => ⟨s2, s3, by simp only [dIx_t0, dIx_t1, dIx_l0, dIx_l1, toItems, itemsOf, runF, runL, startE, endF, endL, R.bind_ok, R.bind_exc, R.bind_stuck, gSeq, gIf, gSet, gOwn, gRet, gRetL, gRetO, gDrop, gTgt, gT, gsC, gsN, gN, gFor, gApp, gExt, gFrz, gNil, gExc, eVar, eC, e1, e2, eA, aNil, aCons, eTup, eLst, eCall, lCall, listR, eChain, tV, tAndD, tOrD, tNotD, eAnd, eOr, eNot, eIf, eL, lDisp, lList, lRep, oNone, oSome, eSl, iSeq, iRng1, iRng2, iZipD, iEnumD, iRevD, lListRange, lLc, eSorted, eSortSet, eLenSet, eBor, tBor, tYesD, noE, toB, dCmp, dSub, dNeg, dInt, dLen, dIs, dIsNot, List.map_cons, List.map_nil, List.length_cons, List.length_nil, Nat.reduceAdd, Nat.reduceSub, Nat.reduceLeDiff, List.replicate, List.cons_append, List.nil_append, List.append_nil, List.getElem?_cons_zero, List.getElem?_cons_succ, List.set_cons_zero, List.set_cons_succ, if_true, if_false, reduceIte, Bool.not_true, Bool.not_false, Bool.false_eq_true, reduceCtorEq, riseD, loopF, enumFrom]⟩
  | z :: suf, k, p, s2, s3, hf, ht, hp => by
    have hz : tyD z ≠ none := ht z (List.mem_cons_self ..)
    rw [riseD_eq]
    simp only [dIx_t0, dIx_t1, dIx_l0, dIx_l1, toItems, itemsOf, runF, runL, startE, endF, endL, R.bind_ok, R.bind_exc, R.bind_stuck, gSeq, gIf, gSet, gOwn, gRet, gRetL, gRetO, gDrop, gTgt, gT, gsC, gsN, gN, gFor, gApp, gExt, gFrz, gNil, gExc, eVar, eC, e1, e2, eA, aNil, aCons, eTup, eLst, eCall, lCall, listR, eChain, tV, tAndD, tOrD, tNotD, eAnd, eOr, eNot, eIf, eL, lDisp, lList, lRep, oNone, oSome, eSl, iSeq, iRng1, iRng2, iZipD, iEnumD, iRevD, lListRange, lLc, eSorted, eSortSet, eLenSet, eBor, tBor, tYesD, noE, toB, dCmp, dSub, dNeg, dInt, dLen, dIs, dIsNot, List.map_cons, List.map_nil, List.length_cons, List.length_nil, Nat.reduceAdd, Nat.reduceSub, Nat.reduceLeDiff, List.replicate, List.cons_append, List.nil_append, List.append_nil, List.getElem?_cons_zero, List.getElem?_cons_succ, List.set_cons_zero, List.set_cons_succ, if_true, if_false, reduceIte, Bool.not_true, Bool.not_false, Bool.false_eq_true, reduceCtorEq, loopF, enumFrom, pan_step m full k z p hz hp]
    unfold riseD_cons
    by_cases hc : (amongB 0 (m - 1) z && ltO p z) = true
    · rw [hc]
      simp only [dIx_t0, dIx_t1, dIx_l0, dIx_l1, toItems, itemsOf, runF, runL, startE, endF, endL, R.bind_ok, R.bind_exc, R.bind_stuck, gSeq, gIf, gSet, gOwn, gRet, gRetL, gRetO, gDrop, gTgt, gT, gsC, gsN, gN, gFor, gApp, gExt, gFrz, gNil, gExc, eVar, eC, e1, e2, eA, aNil, aCons, eTup, eLst, eCall, lCall, listR, eChain, tV, tAndD, tOrD, tNotD, eAnd, eOr, eNot, eIf, eL, lDisp, lList, lRep, oNone, oSome, eSl, iSeq, iRng1, iRng2, iZipD, iEnumD, iRevD, lListRange, lLc, eSorted, eSortSet, eLenSet, eBor, tBor, tYesD, noE, toB, dCmp, dSub, dNeg, dInt, dLen, dIs, dIsNot, List.map_cons, List.map_nil, List.length_cons, List.length_nil, Nat.reduceAdd, Nat.reduceSub, Nat.reduceLeDiff, List.replicate, List.cons_append, List.nil_append, List.append_nil, List.getElem?_cons_zero, List.getElem?_cons_succ, List.set_cons_zero, List.set_cons_succ, if_true, if_false, reduceIte, Bool.not_true, Bool.not_false, Bool.false_eq_true, reduceCtorEq, Bool.true_and]
      cases z
      case int z =>
        have hk : full[k]? = some (.int z) := by
          have := congrArg (fun l : List D => l[0]?) hf
          simpa using this
        have hd : full.drop (k + 1) = suf := by
          have := congrArg (List.drop 1) hf
          simpa [List.drop_drop, Nat.add_comm] using this
        exact pan_loop m full suf (k + 1) (some z) _ _ hd (fun x hx => ht x (List.mem_cons_of_mem _ hx)) (.inr ⟨z, rfl, by omega, by simpa using hk⟩)
      all_goals simp [amongB] at hc
    · rw [Bool.not_eq_true] at hc
      rw [hc]
      simp only [dIx_t0, dIx_t1, dIx_l0, dIx_l1, toItems, itemsOf, runF, runL, startE, endF, endL, R.bind_ok, R.bind_exc, R.bind_stuck, gSeq, gIf, gSet, gOwn, gRet, gRetL, gRetO, gDrop, gTgt, gT, gsC, gsN, gN, gFor, gApp, gExt, gFrz, gNil, gExc, eVar, eC, e1, e2, eA, aNil, aCons, eTup, eLst, eCall, lCall, listR, eChain, tV, tAndD, tOrD, tNotD, eAnd, eOr, eNot, eIf, eL, lDisp, lList, lRep, oNone, oSome, eSl, iSeq, iRng1, iRng2, iZipD, iEnumD, iRevD, lListRange, lLc, eSorted, eSortSet, eLenSet, eBor, tBor, tYesD, noE, toB, dCmp, dSub, dNeg, dInt, dLen, dIs, dIsNot, List.map_cons, List.map_nil, List.length_cons, List.length_nil, Nat.reduceAdd, Nat.reduceSub, Nat.reduceLeDiff, List.replicate, List.cons_append, List.nil_append, List.append_nil, List.getElem?_cons_zero, List.getElem?_cons_succ, List.set_cons_zero, List.set_cons_succ, if_true, if_false, reduceIte, Bool.not_true, Bool.not_false, Bool.false_eq_true, reduceCtorEq, Bool.false_and]
      exact ⟨_, _, rfl⟩
theorem F_is_pan_eq (m : Int) (t : D) (h : sh 60 t ∨ t = .dict []) : F_is_pan [.int m, t] = .ok (.bool (isPan m t)) := by
  unfold F_is_pan g_is_pan
  have ht : tyD t ≠ none := by
    rcases h with h | rfl
    · exact ty_of_sh h
    · simp [tyD]
  simp only [dIx_t0, dIx_t1, dIx_l0, dIx_l1, toItems, itemsOf, runF, runL, startE, endF, endL, R.bind_ok, R.bind_exc, R.bind_stuck, gSeq, gIf, gSet, gOwn, gRet, gRetL, gRetO, gDrop, gTgt, gT, gsC, gsN, gN, gFor, gApp, gExt, gFrz, gNil, gExc, eVar, eC, e1, e2, eA, aNil, aCons, eTup, eLst, eCall, lCall, listR, eChain, tV, tAndD, tOrD, tNotD, eAnd, eOr, eNot, eIf, eL, lDisp, lList, lRep, oNone, oSome, eSl, iSeq, iRng1, iRng2, iZipD, iEnumD, iRevD, lListRange, lLc, eSorted, eSortSet, eLenSet, eBor, tBor, tYesD, noE, toB, dCmp, dSub, dNeg, dInt, dLen, dIs, dIsNot, List.map_cons, List.map_nil, List.length_cons, List.length_nil, Nat.reduceAdd, Nat.reduceSub, Nat.reduceLeDiff, List.replicate, List.cons_append, List.nil_append, List.append_nil, List.getElem?_cons_zero, List.getElem?_cons_succ, List.set_cons_zero, List.set_cons_succ, if_true, if_false, reduceIte, Bool.not_true, Bool.not_false, Bool.false_eq_true, reduceCtorEq, isi_tuple t ht]
  cases t
  case tuple xs =>
    have hs : sh 60 (.tuple xs) := h.resolve_right (by simp)
    simp only [dIx_t0, dIx_t1, dIx_l0, dIx_l1, toItems, itemsOf, runF, runL, startE, endF, endL, R.bind_ok, R.bind_exc, R.bind_stuck, gSeq, gIf, gSet, gOwn, gRet, gRetL, gRetO, gDrop, gTgt, gT, gsC, gsN, gN, gFor, gApp, gExt, gFrz, gNil, gExc, eVar, eC, e1, e2, eA, aNil, aCons, eTup, eLst, eCall, lCall, listR, eChain, tV, tAndD, tOrD, tNotD, eAnd, eOr, eNot, eIf, eL, lDisp, lList, lRep, oNone, oSome, eSl, iSeq, iRng1, iRng2, iZipD, iEnumD, iRevD, lListRange, lLc, eSorted, eSortSet, eLenSet, eBor, tBor, tYesD, noE, toB, dCmp, dSub, dNeg, dInt, dLen, dIs, dIsNot, List.map_cons, List.map_nil, List.length_cons, List.length_nil, Nat.reduceAdd, Nat.reduceSub, Nat.reduceLeDiff, List.replicate, List.cons_append, List.nil_append, List.append_nil, List.getElem?_cons_zero, List.getElem?_cons_succ, List.set_cons_zero, List.set_cons_succ, if_true, if_false, reduceIte, Bool.not_true, Bool.not_false, Bool.false_eq_true, reduceCtorEq, dEq_sh hs (sh_tuple (n := 1) (xs := []) (by simp))]
    cases xs with
    | nil => simp only [dIx_t0, dIx_t1, dIx_l0, dIx_l1, toItems, itemsOf, runF, runL, startE, endF, endL, R.bind_ok, R.bind_exc, R.bind_stuck, gSeq, gIf, gSet, gOwn, gRet, gRetL, gRetO, gDrop, gTgt, gT, gsC, gsN, gN, gFor, gApp, gExt, gFrz, gNil, gExc, eVar, eC, e1, e2, eA, aNil, aCons, eTup, eLst, eCall, lCall, listR, eChain, tV, tAndD, tOrD, tNotD, eAnd, eOr, eNot, eIf, eL, lDisp, lList, lRep, oNone, oSome, eSl, iSeq, iRng1, iRng2, iZipD, iEnumD, iRevD, lListRange, lLc, eSorted, eSortSet, eLenSet, eBor, tBor, tYesD, noE, toB, dCmp, dSub, dNeg, dInt, dLen, dIs, dIsNot, List.map_cons, List.map_nil, List.length_cons, List.length_nil, Nat.reduceAdd, Nat.reduceSub, Nat.reduceLeDiff, List.replicate, List.cons_append, List.nil_append, List.append_nil, List.getElem?_cons_zero, List.getElem?_cons_succ, List.set_cons_zero, List.set_cons_succ, if_true, if_false, reduceIte, Bool.not_true, Bool.not_false, Bool.false_eq_true, reduceCtorEq, PyData.eqv, PyData.eqvAll, isPan, List.isEmpty_nil, Bool.false_and]
    | cons x xs =>
      simp only [dIx_t0, dIx_t1, dIx_l0, dIx_l1, toItems, itemsOf, runF, runL, startE, endF, endL, R.bind_ok, R.bind_exc, R.bind_stuck, gSeq, gIf, gSet, gOwn, gRet, gRetL, gRetO, gDrop, gTgt, gT, gsC, gsN, gN, gFor, gApp, gExt, gFrz, gNil, gExc, eVar, eC, e1, e2, eA, aNil, aCons, eTup, eLst, eCall, lCall, listR, eChain, tV, tAndD, tOrD, tNotD, eAnd, eOr, eNot, eIf, eL, lDisp, lList, lRep, oNone, oSome, eSl, iSeq, iRng1, iRng2, iZipD, iEnumD, iRevD, lListRange, lLc, eSorted, eSortSet, eLenSet, eBor, tBor, tYesD, noE, toB, dCmp, dSub, dNeg, dInt, dLen, dIs, dIsNot, List.map_cons, List.map_nil, List.length_cons, List.length_nil, Nat.reduceAdd, Nat.reduceSub, Nat.reduceLeDiff, List.replicate, List.cons_append, List.nil_append, List.append_nil, List.getElem?_cons_zero, List.getElem?_cons_succ, List.set_cons_zero, List.set_cons_succ, if_true, if_false, reduceIte, Bool.not_true, Bool.not_false, Bool.false_eq_true, reduceCtorEq, PyData.eqv, PyData.eqvAll, isPan, List.isEmpty_cons, Bool.true_and]
      obtain ⟨s2, s3, e⟩ := pan_loop m (x :: xs) (x :: xs) 0 none .no .no rfl (fun y hy => ty_of_sh (sh_of_tuple hs y hy)) (.inl ⟨rfl, rfl⟩)
      rw [e]
      cases riseD m none (x :: xs) <;> simp only [dIx_t0, dIx_t1, dIx_l0, dIx_l1, toItems, itemsOf, runF, runL, startE, endF, endL, R.bind_ok, R.bind_exc, R.bind_stuck, gSeq, gIf, gSet, gOwn, gRet, gRetL, gRetO, gDrop, gTgt, gT, gsC, gsN, gN, gFor, gApp, gExt, gFrz, gNil, gExc, eVar, eC, e1, e2, eA, aNil, aCons, eTup, eLst, eCall, lCall, listR, eChain, tV, tAndD, tOrD, tNotD, eAnd, eOr, eNot, eIf, eL, lDisp, lList, lRep, oNone, oSome, eSl, iSeq, iRng1, iRng2, iZipD, iEnumD, iRevD, lListRange, lLc, eSorted, eSortSet, eLenSet, eBor, tBor, tYesD, noE, toB, dCmp, dSub, dNeg, dInt, dLen, dIs, dIsNot, List.map_cons, List.map_nil, List.length_cons, List.length_nil, Nat.reduceAdd, Nat.reduceSub, Nat.reduceLeDiff, List.replicate, List.cons_append, List.nil_append, List.append_nil, List.getElem?_cons_zero, List.getElem?_cons_succ, List.set_cons_zero, List.set_cons_succ, if_true, if_false, reduceIte, Bool.not_true, Bool.not_false, Bool.false_eq_true, reduceCtorEq]
  all_goals simp only [dIx_t0, dIx_t1, dIx_l0, dIx_l1, toItems, itemsOf, runF, runL, startE, endF, endL, R.bind_ok, R.bind_exc, R.bind_stuck, gSeq, gIf, gSet, gOwn, gRet, gRetL, gRetO, gDrop, gTgt, gT, gsC, gsN, gN, gFor, gApp, gExt, gFrz, gNil, gExc, eVar, eC, e1, e2, eA, aNil, aCons, eTup, eLst, eCall, lCall, listR, eChain, tV, tAndD, tOrD, tNotD, eAnd, eOr, eNot, eIf, eL, lDisp, lList, lRep, oNone, oSome, eSl, iSeq, iRng1, iRng2, iZipD, iEnumD, iRevD, lListRange, lLc, eSorted, eSortSet, eLenSet, eBor, tBor, tYesD, noE, toB, dCmp, dSub, dNeg, dInt, dLen, dIs, dIsNot, List.map_cons, List.map_nil, List.length_cons, List.length_nil, Nat.reduceAdd, Nat.reduceSub, Nat.reduceLeDiff, List.replicate, List.cons_append, List.nil_append, List.append_nil, List.getElem?_cons_zero, List.getElem?_cons_succ, List.set_cons_zero, List.set_cons_succ, if_true, if_false, reduceIte, Bool.not_true, Bool.not_false, Bool.false_eq_true, reduceCtorEq, isPan]
/-! ### is_weighing -/
def apartB (xs ys : List D) : Bool := xs.all fun z => !ys.any fun y => PyData.eqv y z
def isW (m : Int) : D → Bool
  | .tuple [a, b] => isPan m a && (isPan m b && (match a, b with
    | .tuple xs, .tuple ys => decide (xs.length = ys.length) && apartB xs ys
    | _, _ => false))
  | _ => false
theorem isPan_tuple {m : Int} {a : D} (h : isPan m a = true) : ∃ xs, a = .tuple xs := by
  cases a <;> simp [isPan] at h
  exact ⟨_, rfl⟩
theorem filter_nil_all {α : Type} (p : α → Bool) (xs : List α) : (xs.filter p = []) ↔ (xs.all fun z => !p z) = true := by
  simp [List.filter_eq_nil_iff, List.all_eq_true]
theorem c_weigh (m : Int) (xs ys : List D) (t : D) (ht : t = .tuple [.tuple xs, .tuple ys]) (hx : ∀ x ∈ xs, sh 59 x) (hy : ∀ x ∈ ys, sh 59 x) (hl : xs.length ≤ 100000) :
    c_is_weighing_1 [.val (.int m), .val t, .no] = .ok (xs.filter fun z => ys.any fun y => PyData.eqv y z) := by
  subst ht
  unfold c_is_weighing_1
  simp only [dIx_t0, dIx_t1, dIx_l0, dIx_l1, toItems, itemsOf, runF, runL, startE, endF, endL, R.bind_ok, R.bind_exc, R.bind_stuck, gSeq, gIf, gSet, gOwn, gRet, gRetL, gRetO, gDrop, gTgt, gT, gsC, gsN, gN, gFor, gApp, gExt, gFrz, gNil, gExc, eVar, eC, e1, e2, eA, aNil, aCons, eTup, eLst, eCall, lCall, listR, eChain, tV, tAndD, tOrD, tNotD, eAnd, eOr, eNot, eIf, eL, lDisp, lList, lRep, oNone, oSome, eSl, iSeq, iRng1, iRng2, iZipD, iEnumD, iRevD, lListRange, lLc, eSorted, eSortSet, eLenSet, eBor, tBor, tYesD, noE, toB, dCmp, dSub, dNeg, dInt, dLen, dIs, dIsNot, List.map_cons, List.map_nil, List.length_cons, List.length_nil, Nat.reduceAdd, Nat.reduceSub, Nat.reduceLeDiff, List.replicate, List.cons_append, List.nil_append, List.append_nil, List.getElem?_cons_zero, List.getElem?_cons_succ, List.set_cons_zero, List.set_cons_succ, if_true, if_false, reduceIte, Bool.not_true, Bool.not_false, Bool.false_eq_true, reduceCtorEq]
  rw [if_pos ⟨hl, rfl⟩]
  rw [eachR_filter (p := fun z => ys.any fun y => PyData.eqv y z) (f := id)]
  · simp only [dIx_t0, dIx_t1, dIx_l0, dIx_l1, toItems, itemsOf, runF, runL, startE, endF, endL, R.bind_ok, R.bind_exc, R.bind_stuck, gSeq, gIf, gSet, gOwn, gRet, gRetL, gRetO, gDrop, gTgt, gT, gsC, gsN, gN, gFor, gApp, gExt, gFrz, gNil, gExc, eVar, eC, e1, e2, eA, aNil, aCons, eTup, eLst, eCall, lCall, listR, eChain, tV, tAndD, tOrD, tNotD, eAnd, eOr, eNot, eIf, eL, lDisp, lList, lRep, oNone, oSome, eSl, iSeq, iRng1, iRng2, iZipD, iEnumD, iRevD, lListRange, lLc, eSorted, eSortSet, eLenSet, eBor, tBor, tYesD, noE, toB, dCmp, dSub, dNeg, dInt, dLen, dIs, dIsNot, List.map_cons, List.map_nil, List.length_cons, List.length_nil, Nat.reduceAdd, Nat.reduceSub, Nat.reduceLeDiff, List.replicate, List.cons_append, List.nil_append, List.append_nil, List.getElem?_cons_zero, List.getElem?_cons_succ, List.set_cons_zero, List.set_cons_succ, if_true, if_false, reduceIte, Bool.not_true, Bool.not_false, Bool.false_eq_true, reduceCtorEq, List.map_id]
  · intro x h
    unfold lcStep wipeE
    simp only [dIx_t0, dIx_t1, dIx_l0, dIx_l1, toItems, itemsOf, runF, runL, startE, endF, endL, R.bind_ok, R.bind_exc, R.bind_stuck, gSeq, gIf, gSet, gOwn, gRet, gRetL, gRetO, gDrop, gTgt, gT, gsC, gsN, gN, gFor, gApp, gExt, gFrz, gNil, gExc, eVar, eC, e1, e2, eA, aNil, aCons, eTup, eLst, eCall, lCall, listR, eChain, tV, tAndD, tOrD, tNotD, eAnd, eOr, eNot, eIf, eL, lDisp, lList, lRep, oNone, oSome, eSl, iSeq, iRng1, iRng2, iZipD, iEnumD, iRevD, lListRange, lLc, eSorted, eSortSet, eLenSet, eBor, tBor, tYesD, noE, toB, dCmp, dSub, dNeg, dInt, dLen, dIs, dIsNot, List.map_cons, List.map_nil, List.length_cons, List.length_nil, Nat.reduceAdd, Nat.reduceSub, Nat.reduceLeDiff, List.replicate, List.cons_append, List.nil_append, List.append_nil, List.getElem?_cons_zero, List.getElem?_cons_succ, List.set_cons_zero, List.set_cons_succ, if_true, if_false, reduceIte, Bool.not_true, Bool.not_false, Bool.false_eq_true, reduceCtorEq, wipeE, dIn]
    have e : (SeqAt.shaped x && SeqAt.shaped (.tuple ys)) = true := by rw [shaped_sh (hx x h), shaped_sh (sh_tuple hy)]; rfl
    rw [if_pos e]
    simp only [dIx_t0, dIx_t1, dIx_l0, dIx_l1, toItems, itemsOf, runF, runL, startE, endF, endL, R.bind_ok, R.bind_exc, R.bind_stuck, gSeq, gIf, gSet, gOwn, gRet, gRetL, gRetO, gDrop, gTgt, gT, gsC, gsN, gN, gFor, gApp, gExt, gFrz, gNil, gExc, eVar, eC, e1, e2, eA, aNil, aCons, eTup, eLst, eCall, lCall, listR, eChain, tV, tAndD, tOrD, tNotD, eAnd, eOr, eNot, eIf, eL, lDisp, lList, lRep, oNone, oSome, eSl, iSeq, iRng1, iRng2, iZipD, iEnumD, iRevD, lListRange, lLc, eSorted, eSortSet, eLenSet, eBor, tBor, tYesD, noE, toB, dCmp, dSub, dNeg, dInt, dLen, dIs, dIsNot, List.map_cons, List.map_nil, List.length_cons, List.length_nil, Nat.reduceAdd, Nat.reduceSub, Nat.reduceLeDiff, List.replicate, List.cons_append, List.nil_append, List.append_nil, List.getElem?_cons_zero, List.getElem?_cons_succ, List.set_cons_zero, List.set_cons_succ, if_true, if_false, reduceIte, Bool.not_true, Bool.not_false, Bool.false_eq_true, reduceCtorEq, id]
    cases ys.any fun z => PyData.eqv z x <;> rfl
theorem F_is_weighing_eq (m : Int) (t : D) (h : (sh 61 t ∧ ∀ xs, t = .tuple xs → ∀ ys, .tuple ys ∈ xs → ys.length ≤ 100000) ∨ t = .dict []) : F_is_weighing [.int m, t] = .ok (.bool (isW m t)) := by
  unfold F_is_weighing g_is_weighing
  have ht : tyD t ≠ none := by
    rcases h with ⟨h, _⟩ | rfl
    · exact ty_of_sh h
    · simp [tyD]
  simp only [dIx_t0, dIx_t1, dIx_l0, dIx_l1, toItems, itemsOf, runF, runL, startE, endF, endL, R.bind_ok, R.bind_exc, R.bind_stuck, gSeq, gIf, gSet, gOwn, gRet, gRetL, gRetO, gDrop, gTgt, gT, gsC, gsN, gN, gFor, gApp, gExt, gFrz, gNil, gExc, eVar, eC, e1, e2, eA, aNil, aCons, eTup, eLst, eCall, lCall, listR, eChain, tV, tAndD, tOrD, tNotD, eAnd, eOr, eNot, eIf, eL, lDisp, lList, lRep, oNone, oSome, eSl, iSeq, iRng1, iRng2, iZipD, iEnumD, iRevD, lListRange, lLc, eSorted, eSortSet, eLenSet, eBor, tBor, tYesD, noE, toB, dCmp, dSub, dNeg, dInt, dLen, dIs, dIsNot, List.map_cons, List.map_nil, List.length_cons, List.length_nil, Nat.reduceAdd, Nat.reduceSub, Nat.reduceLeDiff, List.replicate, List.cons_append, List.nil_append, List.append_nil, List.getElem?_cons_zero, List.getElem?_cons_succ, List.set_cons_zero, List.set_cons_succ, if_true, if_false, reduceIte, Bool.not_true, Bool.not_false, Bool.false_eq_true, reduceCtorEq, isi_tuple t ht]
  cases t
  case tuple us =>
    obtain ⟨hs, hl⟩ := h.resolve_right (by simp)
    have hsu := sh_of_tuple hs
    simp only [dIx_t0, dIx_t1, dIx_l0, dIx_l1, toItems, itemsOf, runF, runL, startE, endF, endL, R.bind_ok, R.bind_exc, R.bind_stuck, gSeq, gIf, gSet, gOwn, gRet, gRetL, gRetO, gDrop, gTgt, gT, gsC, gsN, gN, gFor, gApp, gExt, gFrz, gNil, gExc, eVar, eC, e1, e2, eA, aNil, aCons, eTup, eLst, eCall, lCall, listR, eChain, tV, tAndD, tOrD, tNotD, eAnd, eOr, eNot, eIf, eL, lDisp, lList, lRep, oNone, oSome, eSl, iSeq, iRng1, iRng2, iZipD, iEnumD, iRevD, lListRange, lLc, eSorted, eSortSet, eLenSet, eBor, tBor, tYesD, noE, toB, dCmp, dSub, dNeg, dInt, dLen, dIs, dIsNot, List.map_cons, List.map_nil, List.length_cons, List.length_nil, Nat.reduceAdd, Nat.reduceSub, Nat.reduceLeDiff, List.replicate, List.cons_append, List.nil_append, List.append_nil, List.getElem?_cons_zero, List.getElem?_cons_succ, List.set_cons_zero, List.set_cons_succ, if_true, if_false, reduceIte, Bool.not_true, Bool.not_false, Bool.false_eq_true, reduceCtorEq, dNe_int]
    match us, hs, hl, hsu with
    | [], _, _, _ => simp only [dIx_t0, dIx_t1, dIx_l0, dIx_l1, toItems, itemsOf, runF, runL, startE, endF, endL, R.bind_ok, R.bind_exc, R.bind_stuck, gSeq, gIf, gSet, gOwn, gRet, gRetL, gRetO, gDrop, gTgt, gT, gsC, gsN, gN, gFor, gApp, gExt, gFrz, gNil, gExc, eVar, eC, e1, e2, eA, aNil, aCons, eTup, eLst, eCall, lCall, listR, eChain, tV, tAndD, tOrD, tNotD, eAnd, eOr, eNot, eIf, eL, lDisp, lList, lRep, oNone, oSome, eSl, iSeq, iRng1, iRng2, iZipD, iEnumD, iRevD, lListRange, lLc, eSorted, eSortSet, eLenSet, eBor, tBor, tYesD, noE, toB, dCmp, dSub, dNeg, dInt, dLen, dIs, dIsNot, List.map_cons, List.map_nil, List.length_cons, List.length_nil, Nat.reduceAdd, Nat.reduceSub, Nat.reduceLeDiff, List.replicate, List.cons_append, List.nil_append, List.append_nil, List.getElem?_cons_zero, List.getElem?_cons_succ, List.set_cons_zero, List.set_cons_succ, if_true, if_false, reduceIte, Bool.not_true, Bool.not_false, Bool.false_eq_true, reduceCtorEq, isW]; rfl
    | [_], _, _, _ => simp only [dIx_t0, dIx_t1, dIx_l0, dIx_l1, toItems, itemsOf, runF, runL, startE, endF, endL, R.bind_ok, R.bind_exc, R.bind_stuck, gSeq, gIf, gSet, gOwn, gRet, gRetL, gRetO, gDrop, gTgt, gT, gsC, gsN, gN, gFor, gApp, gExt, gFrz, gNil, gExc, eVar, eC, e1, e2, eA, aNil, aCons, eTup, eLst, eCall, lCall, listR, eChain, tV, tAndD, tOrD, tNotD, eAnd, eOr, eNot, eIf, eL, lDisp, lList, lRep, oNone, oSome, eSl, iSeq, iRng1, iRng2, iZipD, iEnumD, iRevD, lListRange, lLc, eSorted, eSortSet, eLenSet, eBor, tBor, tYesD, noE, toB, dCmp, dSub, dNeg, dInt, dLen, dIs, dIsNot, List.map_cons, List.map_nil, List.length_cons, List.length_nil, Nat.reduceAdd, Nat.reduceSub, Nat.reduceLeDiff, List.replicate, List.cons_append, List.nil_append, List.append_nil, List.getElem?_cons_zero, List.getElem?_cons_succ, List.set_cons_zero, List.set_cons_succ, if_true, if_false, reduceIte, Bool.not_true, Bool.not_false, Bool.false_eq_true, reduceCtorEq, isW]; rfl
    | _ :: _ :: _ :: r, _, _, _ =>
      have e : decide ((((r.length + 1 + 1 + 1 : Nat)) : Int) = 2) = false := decide_eq_false (by omega)
      simp only [dIx_t0, dIx_t1, dIx_l0, dIx_l1, toItems, itemsOf, runF, runL, startE, endF, endL, R.bind_ok, R.bind_exc, R.bind_stuck, gSeq, gIf, gSet, gOwn, gRet, gRetL, gRetO, gDrop, gTgt, gT, gsC, gsN, gN, gFor, gApp, gExt, gFrz, gNil, gExc, eVar, eC, e1, e2, eA, aNil, aCons, eTup, eLst, eCall, lCall, listR, eChain, tV, tAndD, tOrD, tNotD, eAnd, eOr, eNot, eIf, eL, lDisp, lList, lRep, oNone, oSome, eSl, iSeq, iRng1, iRng2, iZipD, iEnumD, iRevD, lListRange, lLc, eSorted, eSortSet, eLenSet, eBor, tBor, tYesD, noE, toB, dCmp, dSub, dNeg, dInt, dLen, dIs, dIsNot, List.map_cons, List.map_nil, List.length_cons, List.length_nil, Nat.reduceAdd, Nat.reduceSub, Nat.reduceLeDiff, List.replicate, List.cons_append, List.nil_append, List.append_nil, List.getElem?_cons_zero, List.getElem?_cons_succ, List.set_cons_zero, List.set_cons_succ, if_true, if_false, reduceIte, Bool.not_true, Bool.not_false, Bool.false_eq_true, reduceCtorEq, isW, e]
    | [a, b], hs, hl, hsu =>
      have e : decide ((((2 : Nat)) : Int) = 2) = true := by decide
      have ha := hsu a (by simp)
      have hb := hsu b (by simp)
      simp only [dIx_t0, dIx_t1, dIx_l0, dIx_l1, toItems, itemsOf, runF, runL, startE, endF, endL, R.bind_ok, R.bind_exc, R.bind_stuck, gSeq, gIf, gSet, gOwn, gRet, gRetL, gRetO, gDrop, gTgt, gT, gsC, gsN, gN, gFor, gApp, gExt, gFrz, gNil, gExc, eVar, eC, e1, e2, eA, aNil, aCons, eTup, eLst, eCall, lCall, listR, eChain, tV, tAndD, tOrD, tNotD, eAnd, eOr, eNot, eIf, eL, lDisp, lList, lRep, oNone, oSome, eSl, iSeq, iRng1, iRng2, iZipD, iEnumD, iRevD, lListRange, lLc, eSorted, eSortSet, eLenSet, eBor, tBor, tYesD, noE, toB, dCmp, dSub, dNeg, dInt, dLen, dIs, dIsNot, List.map_cons, List.map_nil, List.length_cons, List.length_nil, Nat.reduceAdd, Nat.reduceSub, Nat.reduceLeDiff, List.replicate, List.cons_append, List.nil_append, List.append_nil, List.getElem?_cons_zero, List.getElem?_cons_succ, List.set_cons_zero, List.set_cons_succ, if_true, if_false, reduceIte, Bool.not_true, Bool.not_false, Bool.false_eq_true, reduceCtorEq, e, F_is_pan_eq m a (.inl ha), F_is_pan_eq m b (.inl hb), isW]
      cases h1 : isPan m a
      · simp only [dIx_t0, dIx_t1, dIx_l0, dIx_l1, toItems, itemsOf, runF, runL, startE, endF, endL, R.bind_ok, R.bind_exc, R.bind_stuck, gSeq, gIf, gSet, gOwn, gRet, gRetL, gRetO, gDrop, gTgt, gT, gsC, gsN, gN, gFor, gApp, gExt, gFrz, gNil, gExc, eVar, eC, e1, e2, eA, aNil, aCons, eTup, eLst, eCall, lCall, listR, eChain, tV, tAndD, tOrD, tNotD, eAnd, eOr, eNot, eIf, eL, lDisp, lList, lRep, oNone, oSome, eSl, iSeq, iRng1, iRng2, iZipD, iEnumD, iRevD, lListRange, lLc, eSorted, eSortSet, eLenSet, eBor, tBor, tYesD, noE, toB, dCmp, dSub, dNeg, dInt, dLen, dIs, dIsNot, List.map_cons, List.map_nil, List.length_cons, List.length_nil, Nat.reduceAdd, Nat.reduceSub, Nat.reduceLeDiff, List.replicate, List.cons_append, List.nil_append, List.append_nil, List.getElem?_cons_zero, List.getElem?_cons_succ, List.set_cons_zero, List.set_cons_succ, if_true, if_false, reduceIte, Bool.not_true, Bool.not_false, Bool.false_eq_true, reduceCtorEq, Bool.false_and]
      · cases h2 : isPan m b
        · simp only [dIx_t0, dIx_t1, dIx_l0, dIx_l1, toItems, itemsOf, runF, runL, startE, endF, endL, R.bind_ok, R.bind_exc, R.bind_stuck, gSeq, gIf, gSet, gOwn, gRet, gRetL, gRetO, gDrop, gTgt, gT, gsC, gsN, gN, gFor, gApp, gExt, gFrz, gNil, gExc, eVar, eC, e1, e2, eA, aNil, aCons, eTup, eLst, eCall, lCall, listR, eChain, tV, tAndD, tOrD, tNotD, eAnd, eOr, eNot, eIf, eL, lDisp, lList, lRep, oNone, oSome, eSl, iSeq, iRng1, iRng2, iZipD, iEnumD, iRevD, lListRange, lLc, eSorted, eSortSet, eLenSet, eBor, tBor, tYesD, noE, toB, dCmp, dSub, dNeg, dInt, dLen, dIs, dIsNot, List.map_cons, List.map_nil, List.length_cons, List.length_nil, Nat.reduceAdd, Nat.reduceSub, Nat.reduceLeDiff, List.replicate, List.cons_append, List.nil_append, List.append_nil, List.getElem?_cons_zero, List.getElem?_cons_succ, List.set_cons_zero, List.set_cons_succ, if_true, if_false, reduceIte, Bool.not_true, Bool.not_false, Bool.false_eq_true, reduceCtorEq, Bool.false_and, Bool.and_false]
        · obtain ⟨xs, rfl⟩ := isPan_tuple h1
          obtain ⟨ys, rfl⟩ := isPan_tuple h2
          have hx := sh_of_tuple ha
          have hy := sh_of_tuple hb
          simp only [dIx_t0, dIx_t1, dIx_l0, dIx_l1, toItems, itemsOf, runF, runL, startE, endF, endL, R.bind_ok, R.bind_exc, R.bind_stuck, gSeq, gIf, gSet, gOwn, gRet, gRetL, gRetO, gDrop, gTgt, gT, gsC, gsN, gN, gFor, gApp, gExt, gFrz, gNil, gExc, eVar, eC, e1, e2, eA, aNil, aCons, eTup, eLst, eCall, lCall, listR, eChain, tV, tAndD, tOrD, tNotD, eAnd, eOr, eNot, eIf, eL, lDisp, lList, lRep, oNone, oSome, eSl, iSeq, iRng1, iRng2, iZipD, iEnumD, iRevD, lListRange, lLc, eSorted, eSortSet, eLenSet, eBor, tBor, tYesD, noE, toB, dCmp, dSub, dNeg, dInt, dLen, dIs, dIsNot, List.map_cons, List.map_nil, List.length_cons, List.length_nil, Nat.reduceAdd, Nat.reduceSub, Nat.reduceLeDiff, List.replicate, List.cons_append, List.nil_append, List.append_nil, List.getElem?_cons_zero, List.getElem?_cons_succ, List.set_cons_zero, List.set_cons_succ, if_true, if_false, reduceIte, Bool.not_true, Bool.not_false, Bool.false_eq_true, reduceCtorEq, Bool.true_and, dEq_int, c_weigh m xs ys _ rfl hx hy (hl _ rfl xs (by simp))]
          by_cases hle : xs.length = ys.length
          · have e3 : decide (((xs.length : Nat) : Int) = (ys.length : Nat)) = true := decide_eq_true (by rw [hle])
            simp only [dIx_t0, dIx_t1, dIx_l0, dIx_l1, toItems, itemsOf, runF, runL, startE, endF, endL, R.bind_ok, R.bind_exc, R.bind_stuck, gSeq, gIf, gSet, gOwn, gRet, gRetL, gRetO, gDrop, gTgt, gT, gsC, gsN, gN, gFor, gApp, gExt, gFrz, gNil, gExc, eVar, eC, e1, e2, eA, aNil, aCons, eTup, eLst, eCall, lCall, listR, eChain, tV, tAndD, tOrD, tNotD, eAnd, eOr, eNot, eIf, eL, lDisp, lList, lRep, oNone, oSome, eSl, iSeq, iRng1, iRng2, iZipD, iEnumD, iRevD, lListRange, lLc, eSorted, eSortSet, eLenSet, eBor, tBor, tYesD, noE, toB, dCmp, dSub, dNeg, dInt, dLen, dIs, dIsNot, List.map_cons, List.map_nil, List.length_cons, List.length_nil, Nat.reduceAdd, Nat.reduceSub, Nat.reduceLeDiff, List.replicate, List.cons_append, List.nil_append, List.append_nil, List.getElem?_cons_zero, List.getElem?_cons_succ, List.set_cons_zero, List.set_cons_succ, if_true, if_false, reduceIte, Bool.not_true, Bool.not_false, Bool.false_eq_true, reduceCtorEq, e3, decide_eq_true hle, Bool.true_and]
            have hf : ∀ z ∈ xs.filter (fun z => ys.any fun y => PyData.eqv y z), sh 59 z := fun z hz => hx z (List.mem_filter.mp hz).1
            rw [dEq_sh (sh_list hf) (sh_list (n := 1) (xs := []) (by simp))]
            simp only [dIx_t0, dIx_t1, dIx_l0, dIx_l1, toItems, itemsOf, runF, runL, startE, endF, endL, R.bind_ok, R.bind_exc, R.bind_stuck, gSeq, gIf, gSet, gOwn, gRet, gRetL, gRetO, gDrop, gTgt, gT, gsC, gsN, gN, gFor, gApp, gExt, gFrz, gNil, gExc, eVar, eC, e1, e2, eA, aNil, aCons, eTup, eLst, eCall, lCall, listR, eChain, tV, tAndD, tOrD, tNotD, eAnd, eOr, eNot, eIf, eL, lDisp, lList, lRep, oNone, oSome, eSl, iSeq, iRng1, iRng2, iZipD, iEnumD, iRevD, lListRange, lLc, eSorted, eSortSet, eLenSet, eBor, tBor, tYesD, noE, toB, dCmp, dSub, dNeg, dInt, dLen, dIs, dIsNot, List.map_cons, List.map_nil, List.length_cons, List.length_nil, Nat.reduceAdd, Nat.reduceSub, Nat.reduceLeDiff, List.replicate, List.cons_append, List.nil_append, List.append_nil, List.getElem?_cons_zero, List.getElem?_cons_succ, List.set_cons_zero, List.set_cons_succ, if_true, if_false, reduceIte, Bool.not_true, Bool.not_false, Bool.false_eq_true, reduceCtorEq]
            have e4 : PyData.eqv (.list (xs.filter fun z => ys.any fun y => PyData.eqv y z)) (.list []) = apartB xs ys := by
              unfold apartB
              rw [Bool.eq_iff_iff, ← filter_nil_all]
              cases xs.filter fun z => ys.any fun y => PyData.eqv y z <;> simp [PyData.eqv, PyData.eqvAll]
            rw [e4]
          · have e3 : decide (((xs.length : Nat) : Int) = (ys.length : Nat)) = false := decide_eq_false (by omega)
            simp only [dIx_t0, dIx_t1, dIx_l0, dIx_l1, toItems, itemsOf, runF, runL, startE, endF, endL, R.bind_ok, R.bind_exc, R.bind_stuck, gSeq, gIf, gSet, gOwn, gRet, gRetL, gRetO, gDrop, gTgt, gT, gsC, gsN, gN, gFor, gApp, gExt, gFrz, gNil, gExc, eVar, eC, e1, e2, eA, aNil, aCons, eTup, eLst, eCall, lCall, listR, eChain, tV, tAndD, tOrD, tNotD, eAnd, eOr, eNot, eIf, eL, lDisp, lList, lRep, oNone, oSome, eSl, iSeq, iRng1, iRng2, iZipD, iEnumD, iRevD, lListRange, lLc, eSorted, eSortSet, eLenSet, eBor, tBor, tYesD, noE, toB, dCmp, dSub, dNeg, dInt, dLen, dIs, dIsNot, List.map_cons, List.map_nil, List.length_cons, List.length_nil, Nat.reduceAdd, Nat.reduceSub, Nat.reduceLeDiff, List.replicate, List.cons_append, List.nil_append, List.append_nil, List.getElem?_cons_zero, List.getElem?_cons_succ, List.set_cons_zero, List.set_cons_succ, if_true, if_false, reduceIte, Bool.not_true, Bool.not_false, Bool.false_eq_true, reduceCtorEq, e3, decide_eq_false hle, Bool.false_and]
  all_goals simp only [dIx_t0, dIx_t1, dIx_l0, dIx_l1, toItems, itemsOf, runF, runL, startE, endF, endL, R.bind_ok, R.bind_exc, R.bind_stuck, gSeq, gIf, gSet, gOwn, gRet, gRetL, gRetO, gDrop, gTgt, gT, gsC, gsN, gN, gFor, gApp, gExt, gFrz, gNil, gExc, eVar, eC, e1, e2, eA, aNil, aCons, eTup, eLst, eCall, lCall, listR, eChain, tV, tAndD, tOrD, tNotD, eAnd, eOr, eNot, eIf, eL, lDisp, lList, lRep, oNone, oSome, eSl, iSeq, iRng1, iRng2, iZipD, iEnumD, iRevD, lListRange, lLc, eSorted, eSortSet, eLenSet, eBor, tBor, tYesD, noE, toB, dCmp, dSub, dNeg, dInt, dLen, dIs, dIsNot, List.map_cons, List.map_nil, List.length_cons, List.length_nil, Nat.reduceAdd, Nat.reduceSub, Nat.reduceLeDiff, List.replicate, List.cons_append, List.nil_append, List.append_nil, List.getElem?_cons_zero, List.getElem?_cons_succ, List.set_cons_zero, List.set_cons_succ, if_true, if_false, reduceIte, Bool.not_true, Bool.not_false, Bool.false_eq_true, reduceCtorEq, isW]
/-! ### the law's own look at a weighing -/
theorem rise_pair (m : Int) : ∀ (ns : List Int) (p : Option Int), (∀ z ∈ ns, amongB 0 (m - 1) (.int z) = true) → (riseD m p (ns.map PyData.int) = true ↔ ns.Pairwise (· < ·) ∧ ∀ q, p = some q → ∀ z, ns.head? = some z → q < z)
  | [], p, _ => by simp [riseD]
  | z :: r, p, h => by
    have hz := h z (List.mem_cons_self ..)
    rw [List.map_cons, riseD_eq]
    unfold riseD_cons
    rw [hz]
    simp only [Bool.true_and, Bool.and_eq_true]
    rw [rise_pair m r (some z) fun y hy => h y (List.mem_cons_of_mem _ hy)]
    constructor
    · rintro ⟨h1, h2, h3⟩
      refine ⟨List.pairwise_cons.mpr ⟨fun y hy => ?_, h2⟩, fun q hq y hy => ?_⟩
      · cases r with
        | nil => simp at hy
        | cons y0 r =>
          have h4 := h3 z rfl y0 rfl
          rcases List.mem_cons.mp hy with rfl | hy
          · exact h4
          · exact Int.lt_trans h4 ((List.pairwise_cons.mp h2).1 y hy)
      · subst hq
        simp at hy
        subst hy
        simpa [ltO] using h1
    · rintro ⟨h1, h2⟩
      have h3 := List.pairwise_cons.mp h1
      refine ⟨?_, h3.2, fun q hq y hy => ?_⟩
      · cases p with
        | none => rfl
        | some q => simpa [ltO] using h2 q rfl z rfl
      · cases hq
        cases r with
        | nil => simp at hy
        | cons y0 r =>
          simp at hy
          subst hy
          exact h3.1 _ (List.mem_cons_self ..)
theorem distI_fix {ns : List Int} : ns = distI ns ↔ ns.Pairwise (· < ·) := by
  constructor
  · intro h
    rw [h]
    exact distI_up ns
  · intro h
    exact up_unique h (distI_up ns) fun z => by rw [distI_mem]
theorem rise_all {m : Int} : ∀ {xs : List D} {p : Option Int}, riseD m p xs = true → xs.all (amongB 0 (m - 1)) = true
  | [], _, _ => rfl
  | x :: xs, p, h => by
    rw [riseD_eq] at h
    unfold riseD_cons at h
    simp only [Bool.and_eq_true] at h
    cases x with
    | int z => rw [List.all_cons, h.1.1, rise_all h.2]; rfl
    | _ => simp [amongB] at h
theorem F__law_whole_eq (t : D) (h : tyD t ≠ none) : F__law_whole [t] = .ok (.bool (match t with | .int _ => true | _ => false)) := by
  unfold F__law_whole g__law_whole
  simp only [dIx_t0, dIx_t1, dIx_l0, dIx_l1, toItems, itemsOf, runF, runL, startE, endF, endL, R.bind_ok, R.bind_exc, R.bind_stuck, gSeq, gIf, gSet, gOwn, gRet, gRetL, gRetO, gDrop, gTgt, gT, gsC, gsN, gN, gFor, gApp, gExt, gFrz, gNil, gExc, eVar, eC, e1, e2, eA, aNil, aCons, eTup, eLst, eCall, lCall, listR, eChain, tV, tAndD, tOrD, tNotD, eAnd, eOr, eNot, eIf, eL, lDisp, lList, lRep, oNone, oSome, eSl, iSeq, iRng1, iRng2, iZipD, iEnumD, iRevD, lListRange, lLc, eSorted, eSortSet, eLenSet, eBor, tBor, tYesD, noE, toB, dCmp, dSub, dNeg, dInt, dLen, dIs, dIsNot, List.map_cons, List.map_nil, List.length_cons, List.length_nil, Nat.reduceAdd, Nat.reduceSub, Nat.reduceLeDiff, List.replicate, List.cons_append, List.nil_append, List.append_nil, List.getElem?_cons_zero, List.getElem?_cons_succ, List.set_cons_zero, List.set_cons_succ, if_true, if_false, reduceIte, Bool.not_true, Bool.not_false, Bool.false_eq_true, reduceCtorEq, isi_int t h, isi_bool t h]
  cases t <;> simp only [dIx_t0, dIx_t1, dIx_l0, dIx_l1, toItems, itemsOf, runF, runL, startE, endF, endL, R.bind_ok, R.bind_exc, R.bind_stuck, gSeq, gIf, gSet, gOwn, gRet, gRetL, gRetO, gDrop, gTgt, gT, gsC, gsN, gN, gFor, gApp, gExt, gFrz, gNil, gExc, eVar, eC, e1, e2, eA, aNil, aCons, eTup, eLst, eCall, lCall, listR, eChain, tV, tAndD, tOrD, tNotD, eAnd, eOr, eNot, eIf, eL, lDisp, lList, lRep, oNone, oSome, eSl, iSeq, iRng1, iRng2, iZipD, iEnumD, iRevD, lListRange, lLc, eSorted, eSortSet, eLenSet, eBor, tBor, tYesD, noE, toB, dCmp, dSub, dNeg, dInt, dLen, dIs, dIsNot, List.map_cons, List.map_nil, List.length_cons, List.length_nil, Nat.reduceAdd, Nat.reduceSub, Nat.reduceLeDiff, List.replicate, List.cons_append, List.nil_append, List.append_nil, List.getElem?_cons_zero, List.getElem?_cons_succ, List.set_cons_zero, List.set_cons_succ, if_true, if_false, reduceIte, Bool.not_true, Bool.not_false, Bool.false_eq_true, reduceCtorEq]
theorem c_pan (m : Int) (xs : List D) (hx : ∀ x ∈ xs, sh 59 x) (hl : xs.length ≤ 100000) : c__law_is_pan_1 [.val (.int m), .val (.tuple xs), .no] = .ok (xs.map fun x => .bool (amongB 0 (m - 1) x)) := by
  unfold c__law_is_pan_1
  simp only [dIx_t0, dIx_t1, dIx_l0, dIx_l1, toItems, itemsOf, runF, runL, startE, endF, endL, R.bind_ok, R.bind_exc, R.bind_stuck, gSeq, gIf, gSet, gOwn, gRet, gRetL, gRetO, gDrop, gTgt, gT, gsC, gsN, gN, gFor, gApp, gExt, gFrz, gNil, gExc, eVar, eC, e1, e2, eA, aNil, aCons, eTup, eLst, eCall, lCall, listR, eChain, tV, tAndD, tOrD, tNotD, eAnd, eOr, eNot, eIf, eL, lDisp, lList, lRep, oNone, oSome, eSl, iSeq, iRng1, iRng2, iZipD, iEnumD, iRevD, lListRange, lLc, eSorted, eSortSet, eLenSet, eBor, tBor, tYesD, noE, toB, dCmp, dSub, dNeg, dInt, dLen, dIs, dIsNot, List.map_cons, List.map_nil, List.length_cons, List.length_nil, Nat.reduceAdd, Nat.reduceSub, Nat.reduceLeDiff, List.replicate, List.cons_append, List.nil_append, List.append_nil, List.getElem?_cons_zero, List.getElem?_cons_succ, List.set_cons_zero, List.set_cons_succ, if_true, if_false, reduceIte, Bool.not_true, Bool.not_false, Bool.false_eq_true, reduceCtorEq]
  rw [if_pos ⟨hl, rfl⟩]
  rw [eachR_map (f := fun x => .bool (amongB 0 (m - 1) x))]
  intro x h
  unfold lcStep
  simp only [dIx_t0, dIx_t1, dIx_l0, dIx_l1, toItems, itemsOf, runF, runL, startE, endF, endL, R.bind_ok, R.bind_exc, R.bind_stuck, gSeq, gIf, gSet, gOwn, gRet, gRetL, gRetO, gDrop, gTgt, gT, gsC, gsN, gN, gFor, gApp, gExt, gFrz, gNil, gExc, eVar, eC, e1, e2, eA, aNil, aCons, eTup, eLst, eCall, lCall, listR, eChain, tV, tAndD, tOrD, tNotD, eAnd, eOr, eNot, eIf, eL, lDisp, lList, lRep, oNone, oSome, eSl, iSeq, iRng1, iRng2, iZipD, iEnumD, iRevD, lListRange, lLc, eSorted, eSortSet, eLenSet, eBor, tBor, tYesD, noE, toB, dCmp, dSub, dNeg, dInt, dLen, dIs, dIsNot, List.map_cons, List.map_nil, List.length_cons, List.length_nil, Nat.reduceAdd, Nat.reduceSub, Nat.reduceLeDiff, List.replicate, List.cons_append, List.nil_append, List.append_nil, List.getElem?_cons_zero, List.getElem?_cons_succ, List.set_cons_zero, List.set_cons_succ, if_true, if_false, reduceIte, Bool.not_true, Bool.not_false, Bool.false_eq_true, reduceCtorEq, wipeE, F__law_whole_eq x (ty_of_sh (hx x h))]
  cases x
  case int z =>
    by_cases h0 : 0 ≤ z
    · have e : decide (z < m) = decide (z ≤ m - 1) := by rw [decide_eq_decide]; omega
      simp only [dIx_t0, dIx_t1, dIx_l0, dIx_l1, toItems, itemsOf, runF, runL, startE, endF, endL, R.bind_ok, R.bind_exc, R.bind_stuck, gSeq, gIf, gSet, gOwn, gRet, gRetL, gRetO, gDrop, gTgt, gT, gsC, gsN, gN, gFor, gApp, gExt, gFrz, gNil, gExc, eVar, eC, e1, e2, eA, aNil, aCons, eTup, eLst, eCall, lCall, listR, eChain, tV, tAndD, tOrD, tNotD, eAnd, eOr, eNot, eIf, eL, lDisp, lList, lRep, oNone, oSome, eSl, iSeq, iRng1, iRng2, iZipD, iEnumD, iRevD, lListRange, lLc, eSorted, eSortSet, eLenSet, eBor, tBor, tYesD, noE, toB, dCmp, dSub, dNeg, dInt, dLen, dIs, dIsNot, List.map_cons, List.map_nil, List.length_cons, List.length_nil, Nat.reduceAdd, Nat.reduceSub, Nat.reduceLeDiff, List.replicate, List.cons_append, List.nil_append, List.append_nil, List.getElem?_cons_zero, List.getElem?_cons_succ, List.set_cons_zero, List.set_cons_succ, if_true, if_false, reduceIte, Bool.not_true, Bool.not_false, Bool.false_eq_true, reduceCtorEq, decide_eq_true h0, amongB, Bool.true_and, e]
    · simp only [dIx_t0, dIx_t1, dIx_l0, dIx_l1, toItems, itemsOf, runF, runL, startE, endF, endL, R.bind_ok, R.bind_exc, R.bind_stuck, gSeq, gIf, gSet, gOwn, gRet, gRetL, gRetO, gDrop, gTgt, gT, gsC, gsN, gN, gFor, gApp, gExt, gFrz, gNil, gExc, eVar, eC, e1, e2, eA, aNil, aCons, eTup, eLst, eCall, lCall, listR, eChain, tV, tAndD, tOrD, tNotD, eAnd, eOr, eNot, eIf, eL, lDisp, lList, lRep, oNone, oSome, eSl, iSeq, iRng1, iRng2, iZipD, iEnumD, iRevD, lListRange, lLc, eSorted, eSortSet, eLenSet, eBor, tBor, tYesD, noE, toB, dCmp, dSub, dNeg, dInt, dLen, dIs, dIsNot, List.map_cons, List.map_nil, List.length_cons, List.length_nil, Nat.reduceAdd, Nat.reduceSub, Nat.reduceLeDiff, List.replicate, List.cons_append, List.nil_append, List.append_nil, List.getElem?_cons_zero, List.getElem?_cons_succ, List.set_cons_zero, List.set_cons_succ, if_true, if_false, reduceIte, Bool.not_true, Bool.not_false, Bool.false_eq_true, reduceCtorEq, decide_eq_false h0, amongB, Bool.false_and]
  all_goals simp only [dIx_t0, dIx_t1, dIx_l0, dIx_l1, toItems, itemsOf, runF, runL, startE, endF, endL, R.bind_ok, R.bind_exc, R.bind_stuck, gSeq, gIf, gSet, gOwn, gRet, gRetL, gRetO, gDrop, gTgt, gT, gsC, gsN, gN, gFor, gApp, gExt, gFrz, gNil, gExc, eVar, eC, e1, e2, eA, aNil, aCons, eTup, eLst, eCall, lCall, listR, eChain, tV, tAndD, tOrD, tNotD, eAnd, eOr, eNot, eIf, eL, lDisp, lList, lRep, oNone, oSome, eSl, iSeq, iRng1, iRng2, iZipD, iEnumD, iRevD, lListRange, lLc, eSorted, eSortSet, eLenSet, eBor, tBor, tYesD, noE, toB, dCmp, dSub, dNeg, dInt, dLen, dIs, dIsNot, List.map_cons, List.map_nil, List.length_cons, List.length_nil, Nat.reduceAdd, Nat.reduceSub, Nat.reduceLeDiff, List.replicate, List.cons_append, List.nil_append, List.append_nil, List.getElem?_cons_zero, List.getElem?_cons_succ, List.set_cons_zero, List.set_cons_succ, if_true, if_false, reduceIte, Bool.not_true, Bool.not_false, Bool.false_eq_true, reduceCtorEq, amongB]
theorem F__law_is_pan_eq (m : Int) (t : D) (h : (sh 60 t ∧ ∀ xs, t = .tuple xs → xs.length ≤ 60) ∨ t = .dict []) : F__law_is_pan [.int m, t] = .ok (.bool (isPan m t)) := by
  unfold F__law_is_pan g__law_is_pan
  have ht : tyD t ≠ none := by
    rcases h with h | rfl
    · exact ty_of_sh h.1
    · simp [tyD]
  simp only [dIx_t0, dIx_t1, dIx_l0, dIx_l1, toItems, itemsOf, runF, runL, startE, endF, endL, R.bind_ok, R.bind_exc, R.bind_stuck, gSeq, gIf, gSet, gOwn, gRet, gRetL, gRetO, gDrop, gTgt, gT, gsC, gsN, gN, gFor, gApp, gExt, gFrz, gNil, gExc, eVar, eC, e1, e2, eA, aNil, aCons, eTup, eLst, eCall, lCall, listR, eChain, tV, tAndD, tOrD, tNotD, eAnd, eOr, eNot, eIf, eL, lDisp, lList, lRep, oNone, oSome, eSl, iSeq, iRng1, iRng2, iZipD, iEnumD, iRevD, lListRange, lLc, eSorted, eSortSet, eLenSet, eBor, tBor, tYesD, noE, toB, dCmp, dSub, dNeg, dInt, dLen, dIs, dIsNot, List.map_cons, List.map_nil, List.length_cons, List.length_nil, Nat.reduceAdd, Nat.reduceSub, Nat.reduceLeDiff, List.replicate, List.cons_append, List.nil_append, List.append_nil, List.getElem?_cons_zero, List.getElem?_cons_succ, List.set_cons_zero, List.set_cons_succ, if_true, if_false, reduceIte, Bool.not_true, Bool.not_false, Bool.false_eq_true, reduceCtorEq, isi_tuple t ht]
  cases t
  case tuple xs =>
    obtain ⟨hs, hl⟩ := h.resolve_right (by simp)
    have hl := hl xs rfl
    simp only [dIx_t0, dIx_t1, dIx_l0, dIx_l1, toItems, itemsOf, runF, runL, startE, endF, endL, R.bind_ok, R.bind_exc, R.bind_stuck, gSeq, gIf, gSet, gOwn, gRet, gRetL, gRetO, gDrop, gTgt, gT, gsC, gsN, gN, gFor, gApp, gExt, gFrz, gNil, gExc, eVar, eC, e1, e2, eA, aNil, aCons, eTup, eLst, eCall, lCall, listR, eChain, tV, tAndD, tOrD, tNotD, eAnd, eOr, eNot, eIf, eL, lDisp, lList, lRep, oNone, oSome, eSl, iSeq, iRng1, iRng2, iZipD, iEnumD, iRevD, lListRange, lLc, eSorted, eSortSet, eLenSet, eBor, tBor, tYesD, noE, toB, dCmp, dSub, dNeg, dInt, dLen, dIs, dIsNot, List.map_cons, List.map_nil, List.length_cons, List.length_nil, Nat.reduceAdd, Nat.reduceSub, Nat.reduceLeDiff, List.replicate, List.cons_append, List.nil_append, List.append_nil, List.getElem?_cons_zero, List.getElem?_cons_succ, List.set_cons_zero, List.set_cons_succ, if_true, if_false, reduceIte, Bool.not_true, Bool.not_false, Bool.false_eq_true, reduceCtorEq, dEq_sh hs (sh_tuple (n := 1) (xs := []) (by simp))]
    have hx := sh_of_tuple hs
    by_cases hne : xs = []
    · subst hne
      simp only [dIx_t0, dIx_t1, dIx_l0, dIx_l1, toItems, itemsOf, runF, runL, startE, endF, endL, R.bind_ok, R.bind_exc, R.bind_stuck, gSeq, gIf, gSet, gOwn, gRet, gRetL, gRetO, gDrop, gTgt, gT, gsC, gsN, gN, gFor, gApp, gExt, gFrz, gNil, gExc, eVar, eC, e1, e2, eA, aNil, aCons, eTup, eLst, eCall, lCall, listR, eChain, tV, tAndD, tOrD, tNotD, eAnd, eOr, eNot, eIf, eL, lDisp, lList, lRep, oNone, oSome, eSl, iSeq, iRng1, iRng2, iZipD, iEnumD, iRevD, lListRange, lLc, eSorted, eSortSet, eLenSet, eBor, tBor, tYesD, noE, toB, dCmp, dSub, dNeg, dInt, dLen, dIs, dIsNot, List.map_cons, List.map_nil, List.length_cons, List.length_nil, Nat.reduceAdd, Nat.reduceSub, Nat.reduceLeDiff, List.replicate, List.cons_append, List.nil_append, List.append_nil, List.getElem?_cons_zero, List.getElem?_cons_succ, List.set_cons_zero, List.set_cons_succ, if_true, if_false, reduceIte, Bool.not_true, Bool.not_false, Bool.false_eq_true, reduceCtorEq, PyData.eqv, PyData.eqvAll, isPan, List.isEmpty_nil, Bool.false_and]
    · have e1 : PyData.eqv (.tuple xs) (.tuple []) = false := by cases xs <;> simp [PyData.eqv, PyData.eqvAll] at hne ⊢
      have e2 : xs.isEmpty = false := by cases xs <;> simp at hne ⊢
      simp only [dIx_t0, dIx_t1, dIx_l0, dIx_l1, toItems, itemsOf, runF, runL, startE, endF, endL, R.bind_ok, R.bind_exc, R.bind_stuck, gSeq, gIf, gSet, gOwn, gRet, gRetL, gRetO, gDrop, gTgt, gT, gsC, gsN, gN, gFor, gApp, gExt, gFrz, gNil, gExc, eVar, eC, e1, e2, eA, aNil, aCons, eTup, eLst, eCall, lCall, listR, eChain, tV, tAndD, tOrD, tNotD, eAnd, eOr, eNot, eIf, eL, lDisp, lList, lRep, oNone, oSome, eSl, iSeq, iRng1, iRng2, iZipD, iEnumD, iRevD, lListRange, lLc, eSorted, eSortSet, eLenSet, eBor, tBor, tYesD, noE, toB, dCmp, dSub, dNeg, dInt, dLen, dIs, dIsNot, List.map_cons, List.map_nil, List.length_cons, List.length_nil, Nat.reduceAdd, Nat.reduceSub, Nat.reduceLeDiff, List.replicate, List.cons_append, List.nil_append, List.append_nil, List.getElem?_cons_zero, List.getElem?_cons_succ, List.set_cons_zero, List.set_cons_succ, if_true, if_false, reduceIte, Bool.not_true, Bool.not_false, Bool.false_eq_true, reduceCtorEq, e1, e2, c_pan m _ hx (by omega), map_bool_all, isPan, Bool.true_and]
      cases ha : xs.all (amongB 0 (m - 1))
      · simp only [dIx_t0, dIx_t1, dIx_l0, dIx_l1, toItems, itemsOf, runF, runL, startE, endF, endL, R.bind_ok, R.bind_exc, R.bind_stuck, gSeq, gIf, gSet, gOwn, gRet, gRetL, gRetO, gDrop, gTgt, gT, gsC, gsN, gN, gFor, gApp, gExt, gFrz, gNil, gExc, eVar, eC, e1, e2, eA, aNil, aCons, eTup, eLst, eCall, lCall, listR, eChain, tV, tAndD, tOrD, tNotD, eAnd, eOr, eNot, eIf, eL, lDisp, lList, lRep, oNone, oSome, eSl, iSeq, iRng1, iRng2, iZipD, iEnumD, iRevD, lListRange, lLc, eSorted, eSortSet, eLenSet, eBor, tBor, tYesD, noE, toB, dCmp, dSub, dNeg, dInt, dLen, dIs, dIsNot, List.map_cons, List.map_nil, List.length_cons, List.length_nil, Nat.reduceAdd, Nat.reduceSub, Nat.reduceLeDiff, List.replicate, List.cons_append, List.nil_append, List.append_nil, List.getElem?_cons_zero, List.getElem?_cons_succ, List.set_cons_zero, List.set_cons_succ, if_true, if_false, reduceIte, Bool.not_true, Bool.not_false, Bool.false_eq_true, reduceCtorEq]
        cases hr : riseD m none xs
        · rfl
        · rw [rise_all hr] at ha; cases ha
      · simp only [dIx_t0, dIx_t1, dIx_l0, dIx_l1, toItems, itemsOf, runF, runL, startE, endF, endL, R.bind_ok, R.bind_exc, R.bind_stuck, gSeq, gIf, gSet, gOwn, gRet, gRetL, gRetO, gDrop, gTgt, gT, gsC, gsN, gN, gFor, gApp, gExt, gFrz, gNil, gExc, eVar, eC, e1, e2, eA, aNil, aCons, eTup, eLst, eCall, lCall, listR, eChain, tV, tAndD, tOrD, tNotD, eAnd, eOr, eNot, eIf, eL, lDisp, lList, lRep, oNone, oSome, eSl, iSeq, iRng1, iRng2, iZipD, iEnumD, iRevD, lListRange, lLc, eSorted, eSortSet, eLenSet, eBor, tBor, tYesD, noE, toB, dCmp, dSub, dNeg, dInt, dLen, dIs, dIsNot, List.map_cons, List.map_nil, List.length_cons, List.length_nil, Nat.reduceAdd, Nat.reduceSub, Nat.reduceLeDiff, List.replicate, List.cons_append, List.nil_append, List.append_nil, List.getElem?_cons_zero, List.getElem?_cons_succ, List.set_cons_zero, List.set_cons_succ, if_true, if_false, reduceIte, Bool.not_true, Bool.not_false, Bool.false_eq_true, reduceCtorEq]
        obtain ⟨ns, rfl, hn'⟩ := all_among ha
        have hn : ∀ z ∈ ns, amongB 0 (m - 1) (.int z) = true := fun z hz => by simp only [amongB, Bool.and_eq_true, decide_eq_true_eq]; exact hn' z hz
        rw [List.length_map] at hl
        simp only [dIx_t0, dIx_t1, dIx_l0, dIx_l1, toItems, itemsOf, runF, runL, startE, endF, endL, R.bind_ok, R.bind_exc, R.bind_stuck, gSeq, gIf, gSet, gOwn, gRet, gRetL, gRetO, gDrop, gTgt, gT, gsC, gsN, gN, gFor, gApp, gExt, gFrz, gNil, gExc, eVar, eC, e1, e2, eA, aNil, aCons, eTup, eLst, eCall, lCall, listR, eChain, tV, tAndD, tOrD, tNotD, eAnd, eOr, eNot, eIf, eL, lDisp, lList, lRep, oNone, oSome, eSl, iSeq, iRng1, iRng2, iZipD, iEnumD, iRevD, lListRange, lLc, eSorted, eSortSet, eLenSet, eBor, tBor, tYesD, noE, toB, dCmp, dSub, dNeg, dInt, dLen, dIs, dIsNot, List.map_cons, List.map_nil, List.length_cons, List.length_nil, Nat.reduceAdd, Nat.reduceSub, Nat.reduceLeDiff, List.replicate, List.cons_append, List.nil_append, List.append_nil, List.getElem?_cons_zero, List.getElem?_cons_succ, List.set_cons_zero, List.set_cons_succ, if_true, if_false, reduceIte, Bool.not_true, Bool.not_false, Bool.false_eq_true, reduceCtorEq, dList, setInts, intsOf_map, hl]
        rw [dEq_ex (sh_list (n := 1) (sh_ints _)) (sh_list (n := 1) (sh_ints _)) (by simpa [exact] using exact_ints _) (by simpa [exact] using exact_ints _) (b := riseD m none (ns.map PyData.int))]
        · simp only [dIx_t0, dIx_t1, dIx_l0, dIx_l1, toItems, itemsOf, runF, runL, startE, endF, endL, R.bind_ok, R.bind_exc, R.bind_stuck, gSeq, gIf, gSet, gOwn, gRet, gRetL, gRetO, gDrop, gTgt, gT, gsC, gsN, gN, gFor, gApp, gExt, gFrz, gNil, gExc, eVar, eC, e1, e2, eA, aNil, aCons, eTup, eLst, eCall, lCall, listR, eChain, tV, tAndD, tOrD, tNotD, eAnd, eOr, eNot, eIf, eL, lDisp, lList, lRep, oNone, oSome, eSl, iSeq, iRng1, iRng2, iZipD, iEnumD, iRevD, lListRange, lLc, eSorted, eSortSet, eLenSet, eBor, tBor, tYesD, noE, toB, dCmp, dSub, dNeg, dInt, dLen, dIs, dIsNot, List.map_cons, List.map_nil, List.length_cons, List.length_nil, Nat.reduceAdd, Nat.reduceSub, Nat.reduceLeDiff, List.replicate, List.cons_append, List.nil_append, List.append_nil, List.getElem?_cons_zero, List.getElem?_cons_succ, List.set_cons_zero, List.set_cons_succ, if_true, if_false, reduceIte, Bool.not_true, Bool.not_false, Bool.false_eq_true, reduceCtorEq]
        · rw [PyData.list.injEq, map_int_inj, rise_pair m ns none hn, distI_fix]
          simp
  all_goals simp only [dIx_t0, dIx_t1, dIx_l0, dIx_l1, toItems, itemsOf, runF, runL, startE, endF, endL, R.bind_ok, R.bind_exc, R.bind_stuck, gSeq, gIf, gSet, gOwn, gRet, gRetL, gRetO, gDrop, gTgt, gT, gsC, gsN, gN, gFor, gApp, gExt, gFrz, gNil, gExc, eVar, eC, e1, e2, eA, aNil, aCons, eTup, eLst, eCall, lCall, listR, eChain, tV, tAndD, tOrD, tNotD, eAnd, eOr, eNot, eIf, eL, lDisp, lList, lRep, oNone, oSome, eSl, iSeq, iRng1, iRng2, iZipD, iEnumD, iRevD, lListRange, lLc, eSorted, eSortSet, eLenSet, eBor, tBor, tYesD, noE, toB, dCmp, dSub, dNeg, dInt, dLen, dIs, dIsNot, List.map_cons, List.map_nil, List.length_cons, List.length_nil, Nat.reduceAdd, Nat.reduceSub, Nat.reduceLeDiff, List.replicate, List.cons_append, List.nil_append, List.append_nil, List.getElem?_cons_zero, List.getElem?_cons_succ, List.set_cons_zero, List.set_cons_succ, if_true, if_false, reduceIte, Bool.not_true, Bool.not_false, Bool.false_eq_true, reduceCtorEq, isPan]
theorem isPan_ints {m : Int} {xs : List D} (h : isPan m (.tuple xs) = true) : ∃ ns : List Int, xs = ns.map PyData.int ∧ ns.Pairwise (· < ·) ∧ ns ≠ [] ∧ ∀ z ∈ ns, 0 ≤ z ∧ z < m := by
  simp only [isPan, Bool.and_eq_true, Bool.not_eq_true'] at h
  obtain ⟨ns, rfl, hn'⟩ := all_among (rise_all h.2)
  have hn : ∀ z ∈ ns, amongB 0 (m - 1) (.int z) = true := fun z hz => by simp only [amongB, Bool.and_eq_true, decide_eq_true_eq]; exact hn' z hz
  refine ⟨ns, rfl, ((rise_pair m ns none hn).mp h.2).1, fun e => by subst e; simp at h, fun z hz => ?_⟩
  have := hn z hz
  simp only [amongB, Bool.and_eq_true, decide_eq_true_eq] at this
  omega
theorem apart_ints (a b : List Int) : apartB (a.map PyData.int) (b.map PyData.int) = true ↔ ∀ z ∈ a, z ∉ b := by
  unfold apartB
  simp only [List.all_map, List.any_map, List.all_eq_true, Function.comp_def, Bool.not_eq_true', List.any_eq_false]
  constructor
  · intro h z hz hb
    exact h z hz z hb (by simp [PyData.eqv])
  · intro h z hz y hy e
    have e' : y = z := by simpa [PyData.eqv] using e
    exact h z hz (e' ▸ hy)
theorem insU_len (x : Int) : ∀ {l : List Int}, l.Pairwise (· < ·) → (insU x l).length = if x ∈ l then l.length else l.length + 1
  | [], _ => by simp [insU]
  | y :: r, h => by
    have h2 := List.pairwise_cons.mp h
    unfold insU
    by_cases h1 : x < y
    · have nm : x ∉ y :: r := fun hm => by
        rcases List.mem_cons.mp hm with rfl | hm
        · omega
        · have := h2.1 x hm; omega
      rw [if_pos h1, if_neg nm]
      rfl
    · rw [if_neg h1]
      by_cases h3 : x = y
      · subst h3
        simp
      · rw [if_neg h3, List.length_cons, insU_len x h2.2]
        have e : (x ∈ y :: r) ↔ x ∈ r := by rw [List.mem_cons]; exact ⟨fun h => h.resolve_left h3, .inr⟩
        by_cases h4 : x ∈ r
        · rw [if_pos h4, if_pos (e.mpr h4)]; rfl
        · rw [if_neg h4, if_neg (fun z => h4 (e.mp z))]; rfl
theorem distI_le : ∀ l : List Int, (distI l).length ≤ l.length
  | [] => Nat.le_refl _
  | x :: r => by
    have := distI_le r
    unfold distI
    rw [insU_len x (distI_up r), List.length_cons]
    split <;> omega
theorem nodup_dist : ∀ {l : List Int}, (distI l).length = l.length ↔ l.Nodup
  | [] => by simp [distI]
  | x :: r => by
    have h1 := distI_le r
    have ih := nodup_dist (l := r)
    rw [List.nodup_cons, ← ih]
    rw [show distI (x :: r) = insU x (distI r) from rfl, insU_len x (distI_up r), List.length_cons]
    by_cases h : x ∈ r
    · rw [if_pos (distI_mem.mpr h)]
      exact ⟨fun e => absurd e (by omega), fun e => absurd h e.1⟩
    · rw [if_neg (fun z => h (distI_mem.mp z))]
      exact ⟨fun e => ⟨h, by omega⟩, fun e => by omega⟩
theorem F__law_is_weighing_eq (m : Int) (t : D) (h : (sh 61 t ∧ ∀ xs, t = .tuple xs → ∀ ys, .tuple ys ∈ xs → ys.length ≤ 30) ∨ t = .dict []) : F__law_is_weighing [.int m, t] = .ok (.bool (isW m t)) := by
  unfold F__law_is_weighing g__law_is_weighing
  have ht : tyD t ≠ none := by
    rcases h with ⟨h, _⟩ | rfl
    · exact ty_of_sh h
    · simp [tyD]
  simp only [dIx_t0, dIx_t1, dIx_l0, dIx_l1, toItems, itemsOf, runF, runL, startE, endF, endL, R.bind_ok, R.bind_exc, R.bind_stuck, gSeq, gIf, gSet, gOwn, gRet, gRetL, gRetO, gDrop, gTgt, gT, gsC, gsN, gN, gFor, gApp, gExt, gFrz, gNil, gExc, eVar, eC, e1, e2, eA, aNil, aCons, eTup, eLst, eCall, lCall, listR, eChain, tV, tAndD, tOrD, tNotD, eAnd, eOr, eNot, eIf, eL, lDisp, lList, lRep, oNone, oSome, eSl, iSeq, iRng1, iRng2, iZipD, iEnumD, iRevD, lListRange, lLc, eSorted, eSortSet, eLenSet, eBor, tBor, tYesD, noE, toB, dCmp, dSub, dNeg, dInt, dLen, dIs, dIsNot, List.map_cons, List.map_nil, List.length_cons, List.length_nil, Nat.reduceAdd, Nat.reduceSub, Nat.reduceLeDiff, List.replicate, List.cons_append, List.nil_append, List.append_nil, List.getElem?_cons_zero, List.getElem?_cons_succ, List.set_cons_zero, List.set_cons_succ, if_true, if_false, reduceIte, Bool.not_true, Bool.not_false, Bool.false_eq_true, reduceCtorEq, isi_tuple t ht]
  cases t
  case tuple us =>
    obtain ⟨hs, hl⟩ := h.resolve_right (by simp)
    have hsu := sh_of_tuple hs
    simp only [dIx_t0, dIx_t1, dIx_l0, dIx_l1, toItems, itemsOf, runF, runL, startE, endF, endL, R.bind_ok, R.bind_exc, R.bind_stuck, gSeq, gIf, gSet, gOwn, gRet, gRetL, gRetO, gDrop, gTgt, gT, gsC, gsN, gN, gFor, gApp, gExt, gFrz, gNil, gExc, eVar, eC, e1, e2, eA, aNil, aCons, eTup, eLst, eCall, lCall, listR, eChain, tV, tAndD, tOrD, tNotD, eAnd, eOr, eNot, eIf, eL, lDisp, lList, lRep, oNone, oSome, eSl, iSeq, iRng1, iRng2, iZipD, iEnumD, iRevD, lListRange, lLc, eSorted, eSortSet, eLenSet, eBor, tBor, tYesD, noE, toB, dCmp, dSub, dNeg, dInt, dLen, dIs, dIsNot, List.map_cons, List.map_nil, List.length_cons, List.length_nil, Nat.reduceAdd, Nat.reduceSub, Nat.reduceLeDiff, List.replicate, List.cons_append, List.nil_append, List.append_nil, List.getElem?_cons_zero, List.getElem?_cons_succ, List.set_cons_zero, List.set_cons_succ, if_true, if_false, reduceIte, Bool.not_true, Bool.not_false, Bool.false_eq_true, reduceCtorEq, dNe_int]
    match us, hs, hl, hsu with
    | [], _, _, _ => simp only [dIx_t0, dIx_t1, dIx_l0, dIx_l1, toItems, itemsOf, runF, runL, startE, endF, endL, R.bind_ok, R.bind_exc, R.bind_stuck, gSeq, gIf, gSet, gOwn, gRet, gRetL, gRetO, gDrop, gTgt, gT, gsC, gsN, gN, gFor, gApp, gExt, gFrz, gNil, gExc, eVar, eC, e1, e2, eA, aNil, aCons, eTup, eLst, eCall, lCall, listR, eChain, tV, tAndD, tOrD, tNotD, eAnd, eOr, eNot, eIf, eL, lDisp, lList, lRep, oNone, oSome, eSl, iSeq, iRng1, iRng2, iZipD, iEnumD, iRevD, lListRange, lLc, eSorted, eSortSet, eLenSet, eBor, tBor, tYesD, noE, toB, dCmp, dSub, dNeg, dInt, dLen, dIs, dIsNot, List.map_cons, List.map_nil, List.length_cons, List.length_nil, Nat.reduceAdd, Nat.reduceSub, Nat.reduceLeDiff, List.replicate, List.cons_append, List.nil_append, List.append_nil, List.getElem?_cons_zero, List.getElem?_cons_succ, List.set_cons_zero, List.set_cons_succ, if_true, if_false, reduceIte, Bool.not_true, Bool.not_false, Bool.false_eq_true, reduceCtorEq, isW]; rfl
    | [_], _, _, _ => simp only [dIx_t0, dIx_t1, dIx_l0, dIx_l1, toItems, itemsOf, runF, runL, startE, endF, endL, R.bind_ok, R.bind_exc, R.bind_stuck, gSeq, gIf, gSet, gOwn, gRet, gRetL, gRetO, gDrop, gTgt, gT, gsC, gsN, gN, gFor, gApp, gExt, gFrz, gNil, gExc, eVar, eC, e1, e2, eA, aNil, aCons, eTup, eLst, eCall, lCall, listR, eChain, tV, tAndD, tOrD, tNotD, eAnd, eOr, eNot, eIf, eL, lDisp, lList, lRep, oNone, oSome, eSl, iSeq, iRng1, iRng2, iZipD, iEnumD, iRevD, lListRange, lLc, eSorted, eSortSet, eLenSet, eBor, tBor, tYesD, noE, toB, dCmp, dSub, dNeg, dInt, dLen, dIs, dIsNot, List.map_cons, List.map_nil, List.length_cons, List.length_nil, Nat.reduceAdd, Nat.reduceSub, Nat.reduceLeDiff, List.replicate, List.cons_append, List.nil_append, List.append_nil, List.getElem?_cons_zero, List.getElem?_cons_succ, List.set_cons_zero, List.set_cons_succ, if_true, if_false, reduceIte, Bool.not_true, Bool.not_false, Bool.false_eq_true, reduceCtorEq, isW]; rfl
    | _ :: _ :: _ :: r, _, _, _ =>
      have e : decide ((((r.length + 1 + 1 + 1 : Nat)) : Int) = 2) = false := decide_eq_false (by omega)
      simp only [dIx_t0, dIx_t1, dIx_l0, dIx_l1, toItems, itemsOf, runF, runL, startE, endF, endL, R.bind_ok, R.bind_exc, R.bind_stuck, gSeq, gIf, gSet, gOwn, gRet, gRetL, gRetO, gDrop, gTgt, gT, gsC, gsN, gN, gFor, gApp, gExt, gFrz, gNil, gExc, eVar, eC, e1, e2, eA, aNil, aCons, eTup, eLst, eCall, lCall, listR, eChain, tV, tAndD, tOrD, tNotD, eAnd, eOr, eNot, eIf, eL, lDisp, lList, lRep, oNone, oSome, eSl, iSeq, iRng1, iRng2, iZipD, iEnumD, iRevD, lListRange, lLc, eSorted, eSortSet, eLenSet, eBor, tBor, tYesD, noE, toB, dCmp, dSub, dNeg, dInt, dLen, dIs, dIsNot, List.map_cons, List.map_nil, List.length_cons, List.length_nil, Nat.reduceAdd, Nat.reduceSub, Nat.reduceLeDiff, List.replicate, List.cons_append, List.nil_append, List.append_nil, List.getElem?_cons_zero, List.getElem?_cons_succ, List.set_cons_zero, List.set_cons_succ, if_true, if_false, reduceIte, Bool.not_true, Bool.not_false, Bool.false_eq_true, reduceCtorEq, isW, e]
    | [a, b], hs, hl, hsu =>
      have e : decide ((((2 : Nat)) : Int) = 2) = true := by decide
      have ha := hsu a (by simp)
      have hb := hsu b (by simp)
      have ka : ∀ xs, a = .tuple xs → xs.length ≤ 60 := fun xs e => by have := hl _ rfl xs (by simp [e]); omega
      have kb : ∀ xs, b = .tuple xs → xs.length ≤ 60 := fun xs e => by have := hl _ rfl xs (by simp [e]); omega
      simp only [dIx_t0, dIx_t1, dIx_l0, dIx_l1, toItems, itemsOf, runF, runL, startE, endF, endL, R.bind_ok, R.bind_exc, R.bind_stuck, gSeq, gIf, gSet, gOwn, gRet, gRetL, gRetO, gDrop, gTgt, gT, gsC, gsN, gN, gFor, gApp, gExt, gFrz, gNil, gExc, eVar, eC, e1, e2, eA, aNil, aCons, eTup, eLst, eCall, lCall, listR, eChain, tV, tAndD, tOrD, tNotD, eAnd, eOr, eNot, eIf, eL, lDisp, lList, lRep, oNone, oSome, eSl, iSeq, iRng1, iRng2, iZipD, iEnumD, iRevD, lListRange, lLc, eSorted, eSortSet, eLenSet, eBor, tBor, tYesD, noE, toB, dCmp, dSub, dNeg, dInt, dLen, dIs, dIsNot, List.map_cons, List.map_nil, List.length_cons, List.length_nil, Nat.reduceAdd, Nat.reduceSub, Nat.reduceLeDiff, List.replicate, List.cons_append, List.nil_append, List.append_nil, List.getElem?_cons_zero, List.getElem?_cons_succ, List.set_cons_zero, List.set_cons_succ, if_true, if_false, reduceIte, Bool.not_true, Bool.not_false, Bool.false_eq_true, reduceCtorEq, e, F__law_is_pan_eq m a (.inl ⟨ha, ka⟩), F__law_is_pan_eq m b (.inl ⟨hb, kb⟩), isW]
      cases h1 : isPan m a
      · simp only [dIx_t0, dIx_t1, dIx_l0, dIx_l1, toItems, itemsOf, runF, runL, startE, endF, endL, R.bind_ok, R.bind_exc, R.bind_stuck, gSeq, gIf, gSet, gOwn, gRet, gRetL, gRetO, gDrop, gTgt, gT, gsC, gsN, gN, gFor, gApp, gExt, gFrz, gNil, gExc, eVar, eC, e1, e2, eA, aNil, aCons, eTup, eLst, eCall, lCall, listR, eChain, tV, tAndD, tOrD, tNotD, eAnd, eOr, eNot, eIf, eL, lDisp, lList, lRep, oNone, oSome, eSl, iSeq, iRng1, iRng2, iZipD, iEnumD, iRevD, lListRange, lLc, eSorted, eSortSet, eLenSet, eBor, tBor, tYesD, noE, toB, dCmp, dSub, dNeg, dInt, dLen, dIs, dIsNot, List.map_cons, List.map_nil, List.length_cons, List.length_nil, Nat.reduceAdd, Nat.reduceSub, Nat.reduceLeDiff, List.replicate, List.cons_append, List.nil_append, List.append_nil, List.getElem?_cons_zero, List.getElem?_cons_succ, List.set_cons_zero, List.set_cons_succ, if_true, if_false, reduceIte, Bool.not_true, Bool.not_false, Bool.false_eq_true, reduceCtorEq, Bool.false_and]
      · simp only [dIx_t0, dIx_t1, dIx_l0, dIx_l1, toItems, itemsOf, runF, runL, startE, endF, endL, R.bind_ok, R.bind_exc, R.bind_stuck, gSeq, gIf, gSet, gOwn, gRet, gRetL, gRetO, gDrop, gTgt, gT, gsC, gsN, gN, gFor, gApp, gExt, gFrz, gNil, gExc, eVar, eC, e1, e2, eA, aNil, aCons, eTup, eLst, eCall, lCall, listR, eChain, tV, tAndD, tOrD, tNotD, eAnd, eOr, eNot, eIf, eL, lDisp, lList, lRep, oNone, oSome, eSl, iSeq, iRng1, iRng2, iZipD, iEnumD, iRevD, lListRange, lLc, eSorted, eSortSet, eLenSet, eBor, tBor, tYesD, noE, toB, dCmp, dSub, dNeg, dInt, dLen, dIs, dIsNot, List.map_cons, List.map_nil, List.length_cons, List.length_nil, Nat.reduceAdd, Nat.reduceSub, Nat.reduceLeDiff, List.replicate, List.cons_append, List.nil_append, List.append_nil, List.getElem?_cons_zero, List.getElem?_cons_succ, List.set_cons_zero, List.set_cons_succ, if_true, if_false, reduceIte, Bool.not_true, Bool.not_false, Bool.false_eq_true, reduceCtorEq, F__law_is_pan_eq m b (.inl ⟨hb, kb⟩)]
        cases h2 : isPan m b
        · simp only [dIx_t0, dIx_t1, dIx_l0, dIx_l1, toItems, itemsOf, runF, runL, startE, endF, endL, R.bind_ok, R.bind_exc, R.bind_stuck, gSeq, gIf, gSet, gOwn, gRet, gRetL, gRetO, gDrop, gTgt, gT, gsC, gsN, gN, gFor, gApp, gExt, gFrz, gNil, gExc, eVar, eC, e1, e2, eA, aNil, aCons, eTup, eLst, eCall, lCall, listR, eChain, tV, tAndD, tOrD, tNotD, eAnd, eOr, eNot, eIf, eL, lDisp, lList, lRep, oNone, oSome, eSl, iSeq, iRng1, iRng2, iZipD, iEnumD, iRevD, lListRange, lLc, eSorted, eSortSet, eLenSet, eBor, tBor, tYesD, noE, toB, dCmp, dSub, dNeg, dInt, dLen, dIs, dIsNot, List.map_cons, List.map_nil, List.length_cons, List.length_nil, Nat.reduceAdd, Nat.reduceSub, Nat.reduceLeDiff, List.replicate, List.cons_append, List.nil_append, List.append_nil, List.getElem?_cons_zero, List.getElem?_cons_succ, List.set_cons_zero, List.set_cons_succ, if_true, if_false, reduceIte, Bool.not_true, Bool.not_false, Bool.false_eq_true, reduceCtorEq, Bool.false_and, Bool.and_false]
        · obtain ⟨xs, rfl⟩ := isPan_tuple h1
          obtain ⟨ys, rfl⟩ := isPan_tuple h2
          obtain ⟨ns, rfl, n1, _, _⟩ := isPan_ints h1
          obtain ⟨ms, rfl, m1, _, _⟩ := isPan_ints h2
          have l1 := hl _ rfl (ns.map PyData.int) (by simp)
          have l2 := hl _ rfl (ms.map PyData.int) (by simp)
          rw [List.length_map] at l1 l2
          simp only [dIx_t0, dIx_t1, dIx_l0, dIx_l1, toItems, itemsOf, runF, runL, startE, endF, endL, R.bind_ok, R.bind_exc, R.bind_stuck, gSeq, gIf, gSet, gOwn, gRet, gRetL, gRetO, gDrop, gTgt, gT, gsC, gsN, gN, gFor, gApp, gExt, gFrz, gNil, gExc, eVar, eC, e1, e2, eA, aNil, aCons, eTup, eLst, eCall, lCall, listR, eChain, tV, tAndD, tOrD, tNotD, eAnd, eOr, eNot, eIf, eL, lDisp, lList, lRep, oNone, oSome, eSl, iSeq, iRng1, iRng2, iZipD, iEnumD, iRevD, lListRange, lLc, eSorted, eSortSet, eLenSet, eBor, tBor, tYesD, noE, toB, dCmp, dSub, dNeg, dInt, dLen, dIs, dIsNot, List.map_cons, List.map_nil, List.length_cons, List.length_nil, Nat.reduceAdd, Nat.reduceSub, Nat.reduceLeDiff, List.replicate, List.cons_append, List.nil_append, List.append_nil, List.getElem?_cons_zero, List.getElem?_cons_succ, List.set_cons_zero, List.set_cons_succ, if_true, if_false, reduceIte, Bool.not_true, Bool.not_false, Bool.false_eq_true, reduceCtorEq, Bool.true_and, dNe_int, List.length_map]
          by_cases hle : ns.length = ms.length
          · have e3 : decide (((ns.length : Nat) : Int) = (ms.length : Nat)) = true := decide_eq_true (by rw [hle])
            have e5 : ns.map PyData.int ++ ms.map PyData.int = (ns ++ ms).map PyData.int := by rw [List.map_append]
            have e6 : (ns ++ ms).length ≤ 60 := by rw [List.length_append]; omega
            have e7 : small64 2 = true := by decide
            simp only [dIx_t0, dIx_t1, dIx_l0, dIx_l1, toItems, itemsOf, runF, runL, startE, endF, endL, R.bind_ok, R.bind_exc, R.bind_stuck, gSeq, gIf, gSet, gOwn, gRet, gRetL, gRetO, gDrop, gTgt, gT, gsC, gsN, gN, gFor, gApp, gExt, gFrz, gNil, gExc, eVar, eC, e1, e2, eA, aNil, aCons, eTup, eLst, eCall, lCall, listR, eChain, tV, tAndD, tOrD, tNotD, eAnd, eOr, eNot, eIf, eL, lDisp, lList, lRep, oNone, oSome, eSl, iSeq, iRng1, iRng2, iZipD, iEnumD, iRevD, lListRange, lLc, eSorted, eSortSet, eLenSet, eBor, tBor, tYesD, noE, toB, dCmp, dSub, dNeg, dInt, dLen, dIs, dIsNot, List.map_cons, List.map_nil, List.length_cons, List.length_nil, Nat.reduceAdd, Nat.reduceSub, Nat.reduceLeDiff, List.replicate, List.cons_append, List.nil_append, List.append_nil, List.getElem?_cons_zero, List.getElem?_cons_succ, List.set_cons_zero, List.set_cons_succ, if_true, if_false, reduceIte, Bool.not_true, Bool.not_false, Bool.false_eq_true, reduceCtorEq, e3, decide_eq_true hle, Bool.true_and, dAdd, e5, List.length_map, e6, show ns.length + ms.length ≤ 100000 by omega, setInts, intsOf_map, dMul, e7, Bool.true_or, dEq_int]
            have e8 : decide (((distI (ns ++ ms)).length : Int) = 2 * (ns.length : Nat)) = apartB (ns.map PyData.int) (ms.map PyData.int) := by
              rw [Bool.eq_iff_iff, apart_ints, decide_eq_true_eq]
              have e9 : (((distI (ns ++ ms)).length : Int) = 2 * (ns.length : Nat)) ↔ (distI (ns ++ ms)).length = (ns ++ ms).length := by rw [List.length_append]; omega
              rw [e9, nodup_dist, List.nodup_append]
              constructor
              · rintro ⟨_, _, h3⟩ z hz hz2
                exact h3 z hz z hz2 rfl
              · intro h3
                exact ⟨up_nodup n1, up_nodup m1, fun x hx y hy e => h3 x hx (e ▸ hy)⟩
            rw [e8]
          · have e3 : decide (((ns.length : Nat) : Int) = (ms.length : Nat)) = false := decide_eq_false (by omega)
            simp only [dIx_t0, dIx_t1, dIx_l0, dIx_l1, toItems, itemsOf, runF, runL, startE, endF, endL, R.bind_ok, R.bind_exc, R.bind_stuck, gSeq, gIf, gSet, gOwn, gRet, gRetL, gRetO, gDrop, gTgt, gT, gsC, gsN, gN, gFor, gApp, gExt, gFrz, gNil, gExc, eVar, eC, e1, e2, eA, aNil, aCons, eTup, eLst, eCall, lCall, listR, eChain, tV, tAndD, tOrD, tNotD, eAnd, eOr, eNot, eIf, eL, lDisp, lList, lRep, oNone, oSome, eSl, iSeq, iRng1, iRng2, iZipD, iEnumD, iRevD, lListRange, lLc, eSorted, eSortSet, eLenSet, eBor, tBor, tYesD, noE, toB, dCmp, dSub, dNeg, dInt, dLen, dIs, dIsNot, List.map_cons, List.map_nil, List.length_cons, List.length_nil, Nat.reduceAdd, Nat.reduceSub, Nat.reduceLeDiff, List.replicate, List.cons_append, List.nil_append, List.append_nil, List.getElem?_cons_zero, List.getElem?_cons_succ, List.set_cons_zero, List.set_cons_succ, if_true, if_false, reduceIte, Bool.not_true, Bool.not_false, Bool.false_eq_true, reduceCtorEq, e3, decide_eq_false hle, Bool.false_and]
  all_goals simp only [dIx_t0, dIx_t1, dIx_l0, dIx_l1, toItems, itemsOf, runF, runL, startE, endF, endL, R.bind_ok, R.bind_exc, R.bind_stuck, gSeq, gIf, gSet, gOwn, gRet, gRetL, gRetO, gDrop, gTgt, gT, gsC, gsN, gN, gFor, gApp, gExt, gFrz, gNil, gExc, eVar, eC, e1, e2, eA, aNil, aCons, eTup, eLst, eCall, lCall, listR, eChain, tV, tAndD, tOrD, tNotD, eAnd, eOr, eNot, eIf, eL, lDisp, lList, lRep, oNone, oSome, eSl, iSeq, iRng1, iRng2, iZipD, iEnumD, iRevD, lListRange, lLc, eSorted, eSortSet, eLenSet, eBor, tBor, tYesD, noE, toB, dCmp, dSub, dNeg, dInt, dLen, dIs, dIsNot, List.map_cons, List.map_nil, List.length_cons, List.length_nil, Nat.reduceAdd, Nat.reduceSub, Nat.reduceLeDiff, List.replicate, List.cons_append, List.nil_append, List.append_nil, List.getElem?_cons_zero, List.getElem?_cons_succ, List.set_cons_zero, List.set_cons_succ, if_true, if_false, reduceIte, Bool.not_true, Bool.not_false, Bool.false_eq_true, reduceCtorEq, isW]
/-! ### came -/
def atc (c : List Int) (i : Int) : Int := c.getD i.toNat 0
def sumAt (c a : List Int) : Int := (a.map (atc c)).sum
def sgn (x : Int) : Int := if 0 < x then 1 else if x < 0 then -1 else 0
def cameI (a b c : List Int) : Int := sgn (sumAt c a - sumAt c b)
def fits (c a : List Int) : Prop := ∀ i ∈ a, 0 ≤ i ∧ i < c.length
theorem dIx_at {c : List Int} {i : Int} (h : 0 ≤ i ∧ i < c.length) : dIx (.tuple (c.map PyData.int)) (.int i) = .ok (.int (atc c i)) := by
  refine dIx_tup h.1 ?_
  have hl : i.toNat < c.length := by omega
  rw [List.getElem?_map, List.getElem?_eq_getElem hl]
  simp [atc, List.getD, List.getElem?_eq_getElem hl]
theorem c_came (w : D) (a c : List Int) (hf : fits c a) (hl : a.length ≤ 100000) (k : Nat) (s2 s3 s4 s5 : PL.Slot noObj) (items : PL.Env noObj → R (List D)) (hi : items [.val w, .val (.tuple (c.map PyData.int)), s2, s3, s4, s5] = .ok (a.map PyData.int)) (h5 : plainAt [.val w, .val (.tuple (c.map PyData.int)), s2, s3, s4, s5] 5 = true) :
    lLc items (gN 5) tYesD (e2 dIx (eVar 1) (eVar 5)) [5] [.val w, .val (.tuple (c.map PyData.int)), s2, s3, s4, s5] = .ok ((a.map (atc c)).map PyData.int) := by
  unfold lLc
  rw [hi, R.bind_ok, if_pos ⟨by rw [List.length_map]; exact hl, by simp [h5]⟩]
  rw [List.map_map]
  refine noE_of ?_
  have key : ∀ (l : List Int), fits c l → eachR (lcStep (gN 5) tYesD (e2 dIx (eVar 1) (eVar 5)) (wipeE [.val w, .val (.tuple (c.map PyData.int)), s2, s3, s4, s5] [5])) (l.map PyData.int) = .ok (l.map (PyData.int ∘ atc c)) := fun l => by
    induction l with
    | nil => intro _; rfl
    | cons i r ih =>
      intro hf
      rw [List.map_cons, eachR, ih fun j hj => hf j (List.mem_cons_of_mem _ hj)]
      unfold lcStep
      simp only [dIx_t0, dIx_t1, dIx_l0, dIx_l1, toItems, itemsOf, runF, runL, startE, endF, endL, R.bind_ok, R.bind_exc, R.bind_stuck, gSeq, gIf, gSet, gOwn, gRet, gRetL, gRetO, gDrop, gTgt, gT, gsC, gsN, gN, gFor, gApp, gExt, gFrz, gNil, gExc, eVar, eC, e1, e2, eA, aNil, aCons, eTup, eLst, eCall, lCall, listR, eChain, tV, tAndD, tOrD, tNotD, eAnd, eOr, eNot, eIf, eL, lDisp, lList, lRep, oNone, oSome, eSl, iSeq, iRng1, iRng2, iZipD, iEnumD, iRevD, lListRange, lLc, eSorted, eSortSet, eLenSet, eBor, tBor, tYesD, noE, toB, dCmp, dSub, dNeg, dInt, dLen, dIs, dIsNot, List.map_cons, List.map_nil, List.length_cons, List.length_nil, Nat.reduceAdd, Nat.reduceSub, Nat.reduceLeDiff, List.replicate, List.cons_append, List.nil_append, List.append_nil, List.getElem?_cons_zero, List.getElem?_cons_succ, List.set_cons_zero, List.set_cons_succ, if_true, if_false, reduceIte, Bool.not_true, Bool.not_false, Bool.false_eq_true, reduceCtorEq, wipeE, dIx_at (hf i (List.mem_cons_self ..))]
      rfl
  exact key a hf
theorem sgn_eq (x : Int) : (if decide (0 < x) = true then (1 : Int) else 0) - (if decide (x < 0) = true then (1 : Int) else 0) = sgn x := by
  unfold sgn
  by_cases h1 : 0 < x
  · have h2 : ¬ x < 0 := by omega
    simp [h1, h2]
  · by_cases h2 : x < 0 <;> simp [h1, h2]
theorem F_came_eq (a b c : List Int) (ha : fits c a) (hb : fits c b) (la : a.length ≤ 100000) (lb : b.length ≤ 100000) :
    F_came [.tuple [.tuple (a.map PyData.int), .tuple (b.map PyData.int)], .tuple (c.map PyData.int)] = .ok (.int (cameI a b c)) := by
  have k1 : ∀ (w t : D), c_came_1 [.val w, .val (.tuple (c.map PyData.int)), .val (.tuple (a.map PyData.int)), .val t, .no, .no] = .ok ((a.map (atc c)).map PyData.int) := fun w t =>
    c_came w a c ha la 0 _ _ _ _ _ (by simp only [dIx_t0, dIx_t1, dIx_l0, dIx_l1, toItems, itemsOf, runF, runL, startE, endF, endL, R.bind_ok, R.bind_exc, R.bind_stuck, gSeq, gIf, gSet, gOwn, gRet, gRetL, gRetO, gDrop, gTgt, gT, gsC, gsN, gN, gFor, gApp, gExt, gFrz, gNil, gExc, eVar, eC, e1, e2, eA, aNil, aCons, eTup, eLst, eCall, lCall, listR, eChain, tV, tAndD, tOrD, tNotD, eAnd, eOr, eNot, eIf, eL, lDisp, lList, lRep, oNone, oSome, eSl, iSeq, iRng1, iRng2, iZipD, iEnumD, iRevD, lListRange, lLc, eSorted, eSortSet, eLenSet, eBor, tBor, tYesD, noE, toB, dCmp, dSub, dNeg, dInt, dLen, dIs, dIsNot, List.map_cons, List.map_nil, List.length_cons, List.length_nil, Nat.reduceAdd, Nat.reduceSub, Nat.reduceLeDiff, List.replicate, List.cons_append, List.nil_append, List.append_nil, List.getElem?_cons_zero, List.getElem?_cons_succ, List.set_cons_zero, List.set_cons_succ, if_true, if_false, reduceIte, Bool.not_true, Bool.not_false, Bool.false_eq_true, reduceCtorEq]) rfl
  have k2 : ∀ (w t : D), c_came_2 [.val w, .val (.tuple (c.map PyData.int)), .val t, .val (.tuple (b.map PyData.int)), .no, .no] = .ok ((b.map (atc c)).map PyData.int) := fun w t =>
    c_came w b c hb lb 0 _ _ _ _ _ (by simp only [dIx_t0, dIx_t1, dIx_l0, dIx_l1, toItems, itemsOf, runF, runL, startE, endF, endL, R.bind_ok, R.bind_exc, R.bind_stuck, gSeq, gIf, gSet, gOwn, gRet, gRetL, gRetO, gDrop, gTgt, gT, gsC, gsN, gN, gFor, gApp, gExt, gFrz, gNil, gExc, eVar, eC, e1, e2, eA, aNil, aCons, eTup, eLst, eCall, lCall, listR, eChain, tV, tAndD, tOrD, tNotD, eAnd, eOr, eNot, eIf, eL, lDisp, lList, lRep, oNone, oSome, eSl, iSeq, iRng1, iRng2, iZipD, iEnumD, iRevD, lListRange, lLc, eSorted, eSortSet, eLenSet, eBor, tBor, tYesD, noE, toB, dCmp, dSub, dNeg, dInt, dLen, dIs, dIsNot, List.map_cons, List.map_nil, List.length_cons, List.length_nil, Nat.reduceAdd, Nat.reduceSub, Nat.reduceLeDiff, List.replicate, List.cons_append, List.nil_append, List.append_nil, List.getElem?_cons_zero, List.getElem?_cons_succ, List.set_cons_zero, List.set_cons_succ, if_true, if_false, reduceIte, Bool.not_true, Bool.not_false, Bool.false_eq_true, reduceCtorEq]) rfl
  unfold F_came g_came
  simp only [dIx_t0, dIx_t1, dIx_l0, dIx_l1, toItems, itemsOf, runF, runL, startE, endF, endL, R.bind_ok, R.bind_exc, R.bind_stuck, gSeq, gIf, gSet, gOwn, gRet, gRetL, gRetO, gDrop, gTgt, gT, gsC, gsN, gN, gFor, gApp, gExt, gFrz, gNil, gExc, eVar, eC, e1, e2, eA, aNil, aCons, eTup, eLst, eCall, lCall, listR, eChain, tV, tAndD, tOrD, tNotD, eAnd, eOr, eNot, eIf, eL, lDisp, lList, lRep, oNone, oSome, eSl, iSeq, iRng1, iRng2, iZipD, iEnumD, iRevD, lListRange, lLc, eSorted, eSortSet, eLenSet, eBor, tBor, tYesD, noE, toB, dCmp, dSub, dNeg, dInt, dLen, dIs, dIsNot, List.map_cons, List.map_nil, List.length_cons, List.length_nil, Nat.reduceAdd, Nat.reduceSub, Nat.reduceLeDiff, List.replicate, List.cons_append, List.nil_append, List.append_nil, List.getElem?_cons_zero, List.getElem?_cons_succ, List.set_cons_zero, List.set_cons_succ, if_true, if_false, reduceIte, Bool.not_true, Bool.not_false, Bool.false_eq_true, reduceCtorEq, k1, k2, dSum, intsOf_map]
  rw [sgn_eq]
  rfl
theorem step_L1 (w : D) (c : List Int) (x i : Int) (h : 0 ≤ i ∧ i < c.length) : g__law_came_L1 [.val w, .val (.tuple (c.map PyData.int)), .val (.int x), .val (.int i)] = .ok (.nx, [.val w, .val (.tuple (c.map PyData.int)), .val (.int (x + atc c i)), .val (.int i)]) := by
  unfold g__law_came_L1
  simp only [dIx_t0, dIx_t1, dIx_l0, dIx_l1, toItems, itemsOf, runF, runL, startE, endF, endL, R.bind_ok, R.bind_exc, R.bind_stuck, gSeq, gIf, gSet, gOwn, gRet, gRetL, gRetO, gDrop, gTgt, gT, gsC, gsN, gN, gFor, gApp, gExt, gFrz, gNil, gExc, eVar, eC, e1, e2, eA, aNil, aCons, eTup, eLst, eCall, lCall, listR, eChain, tV, tAndD, tOrD, tNotD, eAnd, eOr, eNot, eIf, eL, lDisp, lList, lRep, oNone, oSome, eSl, iSeq, iRng1, iRng2, iZipD, iEnumD, iRevD, lListRange, lLc, eSorted, eSortSet, eLenSet, eBor, tBor, tYesD, noE, toB, dCmp, dSub, dNeg, dInt, dLen, dIs, dIsNot, List.map_cons, List.map_nil, List.length_cons, List.length_nil, Nat.reduceAdd, Nat.reduceSub, Nat.reduceLeDiff, List.replicate, List.cons_append, List.nil_append, List.append_nil, List.getElem?_cons_zero, List.getElem?_cons_succ, List.set_cons_zero, List.set_cons_succ, if_true, if_false, reduceIte, Bool.not_true, Bool.not_false, Bool.false_eq_true, reduceCtorEq, dIx_at h, dAdd]
theorem step_L2 (w : D) (c : List Int) (x i : Int) (h : 0 ≤ i ∧ i < c.length) : g__law_came_L2 [.val w, .val (.tuple (c.map PyData.int)), .val (.int x), .val (.int i)] = .ok (.nx, [.val w, .val (.tuple (c.map PyData.int)), .val (.int (x - atc c i)), .val (.int i)]) := by
  unfold g__law_came_L2
  simp only [dIx_t0, dIx_t1, dIx_l0, dIx_l1, toItems, itemsOf, runF, runL, startE, endF, endL, R.bind_ok, R.bind_exc, R.bind_stuck, gSeq, gIf, gSet, gOwn, gRet, gRetL, gRetO, gDrop, gTgt, gT, gsC, gsN, gN, gFor, gApp, gExt, gFrz, gNil, gExc, eVar, eC, e1, e2, eA, aNil, aCons, eTup, eLst, eCall, lCall, listR, eChain, tV, tAndD, tOrD, tNotD, eAnd, eOr, eNot, eIf, eL, lDisp, lList, lRep, oNone, oSome, eSl, iSeq, iRng1, iRng2, iZipD, iEnumD, iRevD, lListRange, lLc, eSorted, eSortSet, eLenSet, eBor, tBor, tYesD, noE, toB, dCmp, dSub, dNeg, dInt, dLen, dIs, dIsNot, List.map_cons, List.map_nil, List.length_cons, List.length_nil, Nat.reduceAdd, Nat.reduceSub, Nat.reduceLeDiff, List.replicate, List.cons_append, List.nil_append, List.append_nil, List.getElem?_cons_zero, List.getElem?_cons_succ, List.set_cons_zero, List.set_cons_succ, if_true, if_false, reduceIte, Bool.not_true, Bool.not_false, Bool.false_eq_true, reduceCtorEq, dIx_at h]
theorem lawcame_L1 (w : D) (c : List Int) : ∀ (a : List Int) (x : Int) (s3 : PL.Slot noObj), fits c a → ∃ s3', loopF (gN 3) g__law_came_L1 (a.map PyData.int) [.val w, .val (.tuple (c.map PyData.int)), .val (.int x), s3] = .ok (.nx, [.val w, .val (.tuple (c.map PyData.int)), .val (.int (x + sumAt c a)), s3'])
  | [], x, s3, _ => ⟨s3, by simp only [dIx_t0, dIx_t1, dIx_l0, dIx_l1, toItems, itemsOf, runF, runL, startE, endF, endL, R.bind_ok, R.bind_exc, R.bind_stuck, gSeq, gIf, gSet, gOwn, gRet, gRetL, gRetO, gDrop, gTgt, gT, gsC, gsN, gN, gFor, gApp, gExt, gFrz, gNil, gExc, eVar, eC, e1, e2, eA, aNil, aCons, eTup, eLst, eCall, lCall, listR, eChain, tV, tAndD, tOrD, tNotD, eAnd, eOr, eNot, eIf, eL, lDisp, lList, lRep, oNone, oSome, eSl, iSeq, iRng1, iRng2, iZipD, iEnumD, iRevD, lListRange, lLc, eSorted, eSortSet, eLenSet, eBor, tBor, tYesD, noE, toB, dCmp, dSub, dNeg, dInt, dLen, dIs, dIsNot, List.map_cons, List.map_nil, List.length_cons, List.length_nil, Nat.reduceAdd, Nat.reduceSub, Nat.reduceLeDiff, List.replicate, List.cons_append, List.nil_append, List.append_nil, List.getElem?_cons_zero, List.getElem?_cons_succ, List.set_cons_zero, List.set_cons_succ, if_true, if_false, reduceIte, Bool.not_true, Bool.not_false, Bool.false_eq_true, reduceCtorEq, loopF, sumAt, List.sum_nil, Int.add_zero]⟩
  | i :: r, x, s3, hf => by
    obtain ⟨s3', e⟩ := lawcame_L1 w c r (x + atc c i) (.val (.int i)) fun j hj => hf j (List.mem_cons_of_mem _ hj)
    refine ⟨s3', ?_⟩
    simp only [dIx_t0, dIx_t1, dIx_l0, dIx_l1, toItems, itemsOf, runF, runL, startE, endF, endL, R.bind_ok, R.bind_exc, R.bind_stuck, gSeq, gIf, gSet, gOwn, gRet, gRetL, gRetO, gDrop, gTgt, gT, gsC, gsN, gN, gFor, gApp, gExt, gFrz, gNil, gExc, eVar, eC, e1, e2, eA, aNil, aCons, eTup, eLst, eCall, lCall, listR, eChain, tV, tAndD, tOrD, tNotD, eAnd, eOr, eNot, eIf, eL, lDisp, lList, lRep, oNone, oSome, eSl, iSeq, iRng1, iRng2, iZipD, iEnumD, iRevD, lListRange, lLc, eSorted, eSortSet, eLenSet, eBor, tBor, tYesD, noE, toB, dCmp, dSub, dNeg, dInt, dLen, dIs, dIsNot, List.map_cons, List.map_nil, List.length_cons, List.length_nil, Nat.reduceAdd, Nat.reduceSub, Nat.reduceLeDiff, List.replicate, List.cons_append, List.nil_append, List.append_nil, List.getElem?_cons_zero, List.getElem?_cons_succ, List.set_cons_zero, List.set_cons_succ, if_true, if_false, reduceIte, Bool.not_true, Bool.not_false, Bool.false_eq_true, reduceCtorEq, loopF, step_L1 w c x i (hf i (List.mem_cons_self ..)), e, sumAt, List.sum_cons, Int.add_assoc]
theorem lawcame_L2 (w : D) (c : List Int) : ∀ (a : List Int) (x : Int) (s3 : PL.Slot noObj), fits c a → ∃ s3', loopF (gN 3) g__law_came_L2 (a.map PyData.int) [.val w, .val (.tuple (c.map PyData.int)), .val (.int x), s3] = .ok (.nx, [.val w, .val (.tuple (c.map PyData.int)), .val (.int (x - sumAt c a)), s3'])
  | [], x, s3, _ => ⟨s3, by simp only [dIx_t0, dIx_t1, dIx_l0, dIx_l1, toItems, itemsOf, runF, runL, startE, endF, endL, R.bind_ok, R.bind_exc, R.bind_stuck, gSeq, gIf, gSet, gOwn, gRet, gRetL, gRetO, gDrop, gTgt, gT, gsC, gsN, gN, gFor, gApp, gExt, gFrz, gNil, gExc, eVar, eC, e1, e2, eA, aNil, aCons, eTup, eLst, eCall, lCall, listR, eChain, tV, tAndD, tOrD, tNotD, eAnd, eOr, eNot, eIf, eL, lDisp, lList, lRep, oNone, oSome, eSl, iSeq, iRng1, iRng2, iZipD, iEnumD, iRevD, lListRange, lLc, eSorted, eSortSet, eLenSet, eBor, tBor, tYesD, noE, toB, dCmp, dSub, dNeg, dInt, dLen, dIs, dIsNot, List.map_cons, List.map_nil, List.length_cons, List.length_nil, Nat.reduceAdd, Nat.reduceSub, Nat.reduceLeDiff, List.replicate, List.cons_append, List.nil_append, List.append_nil, List.getElem?_cons_zero, List.getElem?_cons_succ, List.set_cons_zero, List.set_cons_succ, if_true, if_false, reduceIte, Bool.not_true, Bool.not_false, Bool.false_eq_true, reduceCtorEq, loopF, sumAt, List.sum_nil, Int.sub_zero]⟩
  | i :: r, x, s3, hf => by
    obtain ⟨s3', e⟩ := lawcame_L2 w c r (x - atc c i) (.val (.int i)) fun j hj => hf j (List.mem_cons_of_mem _ hj)
    refine ⟨s3', ?_⟩
    simp only [dIx_t0, dIx_t1, dIx_l0, dIx_l1, toItems, itemsOf, runF, runL, startE, endF, endL, R.bind_ok, R.bind_exc, R.bind_stuck, gSeq, gIf, gSet, gOwn, gRet, gRetL, gRetO, gDrop, gTgt, gT, gsC, gsN, gN, gFor, gApp, gExt, gFrz, gNil, gExc, eVar, eC, e1, e2, eA, aNil, aCons, eTup, eLst, eCall, lCall, listR, eChain, tV, tAndD, tOrD, tNotD, eAnd, eOr, eNot, eIf, eL, lDisp, lList, lRep, oNone, oSome, eSl, iSeq, iRng1, iRng2, iZipD, iEnumD, iRevD, lListRange, lLc, eSorted, eSortSet, eLenSet, eBor, tBor, tYesD, noE, toB, dCmp, dSub, dNeg, dInt, dLen, dIs, dIsNot, List.map_cons, List.map_nil, List.length_cons, List.length_nil, Nat.reduceAdd, Nat.reduceSub, Nat.reduceLeDiff, List.replicate, List.cons_append, List.nil_append, List.append_nil, List.getElem?_cons_zero, List.getElem?_cons_succ, List.set_cons_zero, List.set_cons_succ, if_true, if_false, reduceIte, Bool.not_true, Bool.not_false, Bool.false_eq_true, reduceCtorEq, loopF, step_L2 w c x i (hf i (List.mem_cons_self ..)), e]
    simp only [sumAt, List.map_cons, List.sum_cons, show ∀ p q r : Int, p - q - r = p - (q + r) from by intros; omega]
theorem F__law_came_eq (a b c : List Int) (ha : fits c a) (hb : fits c b) :
    F__law_came [.tuple [.tuple (a.map PyData.int), .tuple (b.map PyData.int)], .tuple (c.map PyData.int)] = .ok (.int (cameI a b c)) := by
  unfold F__law_came g__law_came
  obtain ⟨s3, k1⟩ := lawcame_L1 (.tuple [.tuple (a.map PyData.int), .tuple (b.map PyData.int)]) c a 0 .no ha
  obtain ⟨s4, k2⟩ := lawcame_L2 (.tuple [.tuple (a.map PyData.int), .tuple (b.map PyData.int)]) c b (0 + sumAt c a) s3 hb
  simp only [dIx_t0, dIx_t1, dIx_l0, dIx_l1, toItems, itemsOf, runF, runL, startE, endF, endL, R.bind_ok, R.bind_exc, R.bind_stuck, gSeq, gIf, gSet, gOwn, gRet, gRetL, gRetO, gDrop, gTgt, gT, gsC, gsN, gN, gFor, gApp, gExt, gFrz, gNil, gExc, eVar, eC, e1, e2, eA, aNil, aCons, eTup, eLst, eCall, lCall, listR, eChain, tV, tAndD, tOrD, tNotD, eAnd, eOr, eNot, eIf, eL, lDisp, lList, lRep, oNone, oSome, eSl, iSeq, iRng1, iRng2, iZipD, iEnumD, iRevD, lListRange, lLc, eSorted, eSortSet, eLenSet, eBor, tBor, tYesD, noE, toB, dCmp, dSub, dNeg, dInt, dLen, dIs, dIsNot, List.map_cons, List.map_nil, List.length_cons, List.length_nil, Nat.reduceAdd, Nat.reduceSub, Nat.reduceLeDiff, List.replicate, List.cons_append, List.nil_append, List.append_nil, List.getElem?_cons_zero, List.getElem?_cons_succ, List.set_cons_zero, List.set_cons_succ, if_true, if_false, reduceIte, Bool.not_true, Bool.not_false, Bool.false_eq_true, reduceCtorEq, k1, k2]
  unfold cameI sgn
  rw [Int.zero_add]
  by_cases h1 : 0 < sumAt c a - sumAt c b
  · simp only [dIx_t0, dIx_t1, dIx_l0, dIx_l1, toItems, itemsOf, runF, runL, startE, endF, endL, R.bind_ok, R.bind_exc, R.bind_stuck, gSeq, gIf, gSet, gOwn, gRet, gRetL, gRetO, gDrop, gTgt, gT, gsC, gsN, gN, gFor, gApp, gExt, gFrz, gNil, gExc, eVar, eC, e1, e2, eA, aNil, aCons, eTup, eLst, eCall, lCall, listR, eChain, tV, tAndD, tOrD, tNotD, eAnd, eOr, eNot, eIf, eL, lDisp, lList, lRep, oNone, oSome, eSl, iSeq, iRng1, iRng2, iZipD, iEnumD, iRevD, lListRange, lLc, eSorted, eSortSet, eLenSet, eBor, tBor, tYesD, noE, toB, dCmp, dSub, dNeg, dInt, dLen, dIs, dIsNot, List.map_cons, List.map_nil, List.length_cons, List.length_nil, Nat.reduceAdd, Nat.reduceSub, Nat.reduceLeDiff, List.replicate, List.cons_append, List.nil_append, List.append_nil, List.getElem?_cons_zero, List.getElem?_cons_succ, List.set_cons_zero, List.set_cons_succ, if_true, if_false, reduceIte, Bool.not_true, Bool.not_false, Bool.false_eq_true, reduceCtorEq, decide_eq_true h1, if_pos h1]
  · by_cases h2 : sumAt c a - sumAt c b < 0
    · simp only [dIx_t0, dIx_t1, dIx_l0, dIx_l1, toItems, itemsOf, runF, runL, startE, endF, endL, R.bind_ok, R.bind_exc, R.bind_stuck, gSeq, gIf, gSet, gOwn, gRet, gRetL, gRetO, gDrop, gTgt, gT, gsC, gsN, gN, gFor, gApp, gExt, gFrz, gNil, gExc, eVar, eC, e1, e2, eA, aNil, aCons, eTup, eLst, eCall, lCall, listR, eChain, tV, tAndD, tOrD, tNotD, eAnd, eOr, eNot, eIf, eL, lDisp, lList, lRep, oNone, oSome, eSl, iSeq, iRng1, iRng2, iZipD, iEnumD, iRevD, lListRange, lLc, eSorted, eSortSet, eLenSet, eBor, tBor, tYesD, noE, toB, dCmp, dSub, dNeg, dInt, dLen, dIs, dIsNot, List.map_cons, List.map_nil, List.length_cons, List.length_nil, Nat.reduceAdd, Nat.reduceSub, Nat.reduceLeDiff, List.replicate, List.cons_append, List.nil_append, List.append_nil, List.getElem?_cons_zero, List.getElem?_cons_succ, List.set_cons_zero, List.set_cons_succ, if_true, if_false, reduceIte, Bool.not_true, Bool.not_false, Bool.false_eq_true, reduceCtorEq, decide_eq_false h1, decide_eq_true h2, if_neg h1, if_pos h2]
    · simp only [dIx_t0, dIx_t1, dIx_l0, dIx_l1, toItems, itemsOf, runF, runL, startE, endF, endL, R.bind_ok, R.bind_exc, R.bind_stuck, gSeq, gIf, gSet, gOwn, gRet, gRetL, gRetO, gDrop, gTgt, gT, gsC, gsN, gN, gFor, gApp, gExt, gFrz, gNil, gExc, eVar, eC, e1, e2, eA, aNil, aCons, eTup, eLst, eCall, lCall, listR, eChain, tV, tAndD, tOrD, tNotD, eAnd, eOr, eNot, eIf, eL, lDisp, lList, lRep, oNone, oSome, eSl, iSeq, iRng1, iRng2, iZipD, iEnumD, iRevD, lListRange, lLc, eSorted, eSortSet, eLenSet, eBor, tBor, tYesD, noE, toB, dCmp, dSub, dNeg, dInt, dLen, dIs, dIsNot, List.map_cons, List.map_nil, List.length_cons, List.length_nil, Nat.reduceAdd, Nat.reduceSub, Nat.reduceLeDiff, List.replicate, List.cons_append, List.nil_append, List.append_nil, List.getElem?_cons_zero, List.getElem?_cons_succ, List.set_cons_zero, List.set_cons_succ, if_true, if_false, reduceIte, Bool.not_true, Bool.not_false, Bool.false_eq_true, reduceCtorEq, decide_eq_false h1, decide_eq_false h2, if_neg h1, if_neg h2]
theorem cameI_swap (a b c : List Int) : cameI b a c = 0 - cameI a b c := by
  unfold cameI sgn
  by_cases h1 : 0 < sumAt c a - sumAt c b
  · rw [if_neg (by omega), if_pos (by omega), if_pos h1]; rfl
  · by_cases h2 : sumAt c a - sumAt c b < 0
    · rw [if_pos (by omega), if_neg h1, if_pos h2]; rfl
    · rw [if_neg (by omega), if_neg (by omega), if_neg h1, if_neg h2]; rfl
theorem law_whole_int (z : Int) : F__law_whole [.int z] = .ok (.bool true) := F__law_whole_eq (.int z) (by simp [tyD])
end W

set_option Elab.async false
set_option linter.all false
set_option maxRecDepth 100000
set_option maxHeartbeats 1000000
namespace W
open PySem PL
/-! ### weighings, typed; those that lead -/
abbrev Wg := List Int × List Int
def encW (w : Wg) : D := .tuple [.tuple (w.1.map PyData.int), .tuple (w.2.map PyData.int)]
def Ws : Nat → List Wg
  | 2 => [([0], [1])]
  | 3 => [([0], [1]), ([0], [2]), ([1], [2])]
  | 4 => [([0], [1]), ([0], [2]), ([0], [3]), ([0, 1], [2, 3]), ([0, 2], [1, 3]), ([0, 3], [1, 2]), ([1], [2]), ([1], [3]), ([2], [3])]
  | 5 => [([0], [1]), ([0], [2]), ([0], [3]), ([0], [4]), ([0, 1], [2, 3]), ([0, 1], [2, 4]), ([0, 1], [3, 4]), ([0, 2], [1, 3]), ([0, 2], [1, 4]), ([0, 2], [3, 4]), ([0, 3], [1, 2]), ([0, 3], [1, 4]), ([0, 3], [2, 4]), ([0, 4], [1, 2]), ([0, 4], [1, 3]), ([0, 4], [2, 3]), ([1], [2]), ([1], [3]), ([1], [4]), ([1, 2], [3, 4]), ([1, 3], [2, 4]), ([1, 4], [2, 3]), ([2], [3]), ([2], [4]), ([3], [4])]
  | _ => []

set_option maxHeartbeats 0 in
theorem pans2 : F__law_pans [.int 2] = .ok ((Ws 2).map encW) := by kernel_rfl
set_option maxHeartbeats 0 in
theorem pans3 : F__law_pans [.int 3] = .ok ((Ws 3).map encW) := by kernel_rfl
set_option maxHeartbeats 0 in
theorem pans4 : F__law_pans [.int 4] = .ok ((Ws 4).map encW) := by kernel_rfl
set_option maxHeartbeats 0 in
theorem pans5 : F__law_pans [.int 5] = .ok ((Ws 5).map encW) := by kernel_rfl
theorem pans_eq {m : Nat} (hm : Many m) : F__law_pans [.int m] = .ok ((Ws m).map encW) := by
  rcases hm with rfl | rfl | rfl | rfl
  · exact pans2
  · exact pans3
  · exact pans4
  · exact pans5
def swapW (w : Wg) : Wg := (w.2, w.1)
def goodW (m : Nat) (w : Wg) : Bool := isW m (encW w) && (isW m (encW (swapW w)) && (decide (w.1.length ≤ 30) && decide (w.2.length ≤ 30)))
theorem good2 : ((Ws 2).all (goodW 2)) = true := by decide +kernel
theorem good3 : ((Ws 3).all (goodW 3)) = true := by decide +kernel
theorem good4 : ((Ws 4).all (goodW 4)) = true := by decide +kernel
theorem good5 : ((Ws 5).all (goodW 5)) = true := by decide +kernel
theorem goodWs {m : Nat} (hm : Many m) : ∀ w ∈ Ws m, isW m (encW w) = true ∧ isW m (encW (swapW w)) = true ∧ w.1.length ≤ 30 ∧ w.2.length ≤ 30 := fun w hw => by
  have h : goodW m w = true := by
    rcases hm with rfl | rfl | rfl | rfl
    · exact List.all_eq_true.mp good2 w hw
    · exact List.all_eq_true.mp good3 w hw
    · exact List.all_eq_true.mp good4 w hw
    · exact List.all_eq_true.mp good5 w hw
  simpa [goodW] using h
theorem Ws_len {m : Nat} (hm : Many m) : 0 < (Ws m).length ∧ (Ws m).length ≤ 25 := by rcases hm with rfl | rfl | rfl | rfl <;> decide
end W

set_option Elab.async false
set_option linter.all false
set_option maxRecDepth 100000
set_option maxHeartbeats 1000000
namespace W
open PySem PL
/-! ### a case told -/
def alikeC (c : List Int) : D → Bool
  | .tuple xs => PyData.eqv (.tuple xs) (encC c) && xs.all (amongB (-1) 1)
  | _ => false
theorem c_alike (c0 : D) (xs : List D) (hx : ∀ x ∈ xs, tyD x ≠ none) (hl : xs.length ≤ 100000) : c_is_alike_1 [.val c0, .val (.tuple xs), .no] = .ok (xs.map fun x => .bool (amongB (-1) 1 x)) := by
  unfold c_is_alike_1
  simp only [dIx_t0, dIx_t1, dIx_l0, dIx_l1, toItems, itemsOf, runF, runL, startE, endF, endL, R.bind_ok, R.bind_exc, R.bind_stuck, gSeq, gIf, gSet, gOwn, gRet, gRetL, gRetO, gDrop, gTgt, gT, gsC, gsN, gN, gFor, gApp, gExt, gFrz, gNil, gExc, eVar, eC, e1, e2, eA, aNil, aCons, eTup, eLst, eCall, lCall, listR, eChain, tV, tAndD, tOrD, tNotD, eAnd, eOr, eNot, eIf, eL, lDisp, lList, lRep, oNone, oSome, eSl, iSeq, iRng1, iRng2, iZipD, iEnumD, iRevD, lListRange, lLc, eSorted, eSortSet, eLenSet, eBor, tBor, tYesD, noE, toB, dCmp, dSub, dNeg, dInt, dLen, dIs, dIsNot, List.map_cons, List.map_nil, List.length_cons, List.length_nil, Nat.reduceAdd, Nat.reduceSub, Nat.reduceLeDiff, List.replicate, List.cons_append, List.nil_append, List.append_nil, List.getElem?_cons_zero, List.getElem?_cons_succ, List.set_cons_zero, List.set_cons_succ, if_true, if_false, reduceIte, Bool.not_true, Bool.not_false, Bool.false_eq_true, reduceCtorEq]
  rw [if_pos ⟨hl, rfl⟩]
  rw [eachR_map (f := fun x => .bool (amongB (-1) 1 x))]
  intro x h
  unfold lcStep
  simp only [dIx_t0, dIx_t1, dIx_l0, dIx_l1, toItems, itemsOf, runF, runL, startE, endF, endL, R.bind_ok, R.bind_exc, R.bind_stuck, gSeq, gIf, gSet, gOwn, gRet, gRetL, gRetO, gDrop, gTgt, gT, gsC, gsN, gN, gFor, gApp, gExt, gFrz, gNil, gExc, eVar, eC, e1, e2, eA, aNil, aCons, eTup, eLst, eCall, lCall, listR, eChain, tV, tAndD, tOrD, tNotD, eAnd, eOr, eNot, eIf, eL, lDisp, lList, lRep, oNone, oSome, eSl, iSeq, iRng1, iRng2, iZipD, iEnumD, iRevD, lListRange, lLc, eSorted, eSortSet, eLenSet, eBor, tBor, tYesD, noE, toB, dCmp, dSub, dNeg, dInt, dLen, dIs, dIsNot, List.map_cons, List.map_nil, List.length_cons, List.length_nil, Nat.reduceAdd, Nat.reduceSub, Nat.reduceLeDiff, List.replicate, List.cons_append, List.nil_append, List.append_nil, List.getElem?_cons_zero, List.getElem?_cons_succ, List.set_cons_zero, List.set_cons_succ, if_true, if_false, reduceIte, Bool.not_true, Bool.not_false, Bool.false_eq_true, reduceCtorEq, wipeE, Int.reduceNeg, F_is_among_eq x (hx x h)]
/-- data that may be looked at: dict-free, not deep, not long -/
def flatD (t : D) : Prop := sh 60 t ∧ ∀ xs, t = .tuple xs → xs.length ≤ 60
theorem F_is_alike_eq (c : List Int) (t : D) (h : flatD t) : F_is_alike [encC c, t] = .ok (.bool (alikeC c t)) := by
  unfold F_is_alike g_is_alike
  simp only [dIx_t0, dIx_t1, dIx_l0, dIx_l1, toItems, itemsOf, runF, runL, startE, endF, endL, R.bind_ok, R.bind_exc, R.bind_stuck, gSeq, gIf, gSet, gOwn, gRet, gRetL, gRetO, gDrop, gTgt, gT, gsC, gsN, gN, gFor, gApp, gExt, gFrz, gNil, gExc, eVar, eC, e1, e2, eA, aNil, aCons, eTup, eLst, eCall, lCall, listR, eChain, tV, tAndD, tOrD, tNotD, eAnd, eOr, eNot, eIf, eL, lDisp, lList, lRep, oNone, oSome, eSl, iSeq, iRng1, iRng2, iZipD, iEnumD, iRevD, lListRange, lLc, eSorted, eSortSet, eLenSet, eBor, tBor, tYesD, noE, toB, dCmp, dSub, dNeg, dInt, dLen, dIs, dIsNot, List.map_cons, List.map_nil, List.length_cons, List.length_nil, Nat.reduceAdd, Nat.reduceSub, Nat.reduceLeDiff, List.replicate, List.cons_append, List.nil_append, List.append_nil, List.getElem?_cons_zero, List.getElem?_cons_succ, List.set_cons_zero, List.set_cons_succ, if_true, if_false, reduceIte, Bool.not_true, Bool.not_false, Bool.false_eq_true, reduceCtorEq, isi_tuple t (ty_of_sh h.1)]
  cases t
  case tuple xs =>
    have hx := sh_of_tuple h.1
    have hl := h.2 xs rfl
    simp only [dIx_t0, dIx_t1, dIx_l0, dIx_l1, toItems, itemsOf, runF, runL, startE, endF, endL, R.bind_ok, R.bind_exc, R.bind_stuck, gSeq, gIf, gSet, gOwn, gRet, gRetL, gRetO, gDrop, gTgt, gT, gsC, gsN, gN, gFor, gApp, gExt, gFrz, gNil, gExc, eVar, eC, e1, e2, eA, aNil, aCons, eTup, eLst, eCall, lCall, listR, eChain, tV, tAndD, tOrD, tNotD, eAnd, eOr, eNot, eIf, eL, lDisp, lList, lRep, oNone, oSome, eSl, iSeq, iRng1, iRng2, iZipD, iEnumD, iRevD, lListRange, lLc, eSorted, eSortSet, eLenSet, eBor, tBor, tYesD, noE, toB, dCmp, dSub, dNeg, dInt, dLen, dIs, dIsNot, List.map_cons, List.map_nil, List.length_cons, List.length_nil, Nat.reduceAdd, Nat.reduceSub, Nat.reduceLeDiff, List.replicate, List.cons_append, List.nil_append, List.append_nil, List.getElem?_cons_zero, List.getElem?_cons_succ, List.set_cons_zero, List.set_cons_succ, if_true, if_false, reduceIte, Bool.not_true, Bool.not_false, Bool.false_eq_true, reduceCtorEq, dEq_sh h.1 (encC_sh c)]
    cases he : PyData.eqv (.tuple xs) (encC c)
    · simp only [dIx_t0, dIx_t1, dIx_l0, dIx_l1, toItems, itemsOf, runF, runL, startE, endF, endL, R.bind_ok, R.bind_exc, R.bind_stuck, gSeq, gIf, gSet, gOwn, gRet, gRetL, gRetO, gDrop, gTgt, gT, gsC, gsN, gN, gFor, gApp, gExt, gFrz, gNil, gExc, eVar, eC, e1, e2, eA, aNil, aCons, eTup, eLst, eCall, lCall, listR, eChain, tV, tAndD, tOrD, tNotD, eAnd, eOr, eNot, eIf, eL, lDisp, lList, lRep, oNone, oSome, eSl, iSeq, iRng1, iRng2, iZipD, iEnumD, iRevD, lListRange, lLc, eSorted, eSortSet, eLenSet, eBor, tBor, tYesD, noE, toB, dCmp, dSub, dNeg, dInt, dLen, dIs, dIsNot, List.map_cons, List.map_nil, List.length_cons, List.length_nil, Nat.reduceAdd, Nat.reduceSub, Nat.reduceLeDiff, List.replicate, List.cons_append, List.nil_append, List.append_nil, List.getElem?_cons_zero, List.getElem?_cons_succ, List.set_cons_zero, List.set_cons_succ, if_true, if_false, reduceIte, Bool.not_true, Bool.not_false, Bool.false_eq_true, reduceCtorEq, alikeC, he, Bool.false_and]
    · simp only [dIx_t0, dIx_t1, dIx_l0, dIx_l1, toItems, itemsOf, runF, runL, startE, endF, endL, R.bind_ok, R.bind_exc, R.bind_stuck, gSeq, gIf, gSet, gOwn, gRet, gRetL, gRetO, gDrop, gTgt, gT, gsC, gsN, gN, gFor, gApp, gExt, gFrz, gNil, gExc, eVar, eC, e1, e2, eA, aNil, aCons, eTup, eLst, eCall, lCall, listR, eChain, tV, tAndD, tOrD, tNotD, eAnd, eOr, eNot, eIf, eL, lDisp, lList, lRep, oNone, oSome, eSl, iSeq, iRng1, iRng2, iZipD, iEnumD, iRevD, lListRange, lLc, eSorted, eSortSet, eLenSet, eBor, tBor, tYesD, noE, toB, dCmp, dSub, dNeg, dInt, dLen, dIs, dIsNot, List.map_cons, List.map_nil, List.length_cons, List.length_nil, Nat.reduceAdd, Nat.reduceSub, Nat.reduceLeDiff, List.replicate, List.cons_append, List.nil_append, List.append_nil, List.getElem?_cons_zero, List.getElem?_cons_succ, List.set_cons_zero, List.set_cons_succ, if_true, if_false, reduceIte, Bool.not_true, Bool.not_false, Bool.false_eq_true, reduceCtorEq, c_alike (encC c) xs (fun x hx' => ty_of_sh (hx x hx')) (by omega), map_bool_all, alikeC, he, Bool.true_and]
  all_goals simp only [dIx_t0, dIx_t1, dIx_l0, dIx_l1, toItems, itemsOf, runF, runL, startE, endF, endL, R.bind_ok, R.bind_exc, R.bind_stuck, gSeq, gIf, gSet, gOwn, gRet, gRetL, gRetO, gDrop, gTgt, gT, gsC, gsN, gN, gFor, gApp, gExt, gFrz, gNil, gExc, eVar, eC, e1, e2, eA, aNil, aCons, eTup, eLst, eCall, lCall, listR, eChain, tV, tAndD, tOrD, tNotD, eAnd, eOr, eNot, eIf, eL, lDisp, lList, lRep, oNone, oSome, eSl, iSeq, iRng1, iRng2, iZipD, iEnumD, iRevD, lListRange, lLc, eSorted, eSortSet, eLenSet, eBor, tBor, tYesD, noE, toB, dCmp, dSub, dNeg, dInt, dLen, dIs, dIsNot, List.map_cons, List.map_nil, List.length_cons, List.length_nil, Nat.reduceAdd, Nat.reduceSub, Nat.reduceLeDiff, List.replicate, List.cons_append, List.nil_append, List.append_nil, List.getElem?_cons_zero, List.getElem?_cons_succ, List.set_cons_zero, List.set_cons_succ, if_true, if_false, reduceIte, Bool.not_true, Bool.not_false, Bool.false_eq_true, reduceCtorEq, alikeC]
theorem eqv_among : ∀ {xs : List D} {c : List Int}, PyData.eqvAll xs (c.map PyData.int) = true → (∀ z ∈ c, -1 ≤ z ∧ z ≤ 1) → (xs.all (amongB (-1) 1)) = (xs.all fun x => match x with | .int _ => true | _ => false)
  | [], _, _, _ => rfl
  | x :: xs, [], h, _ => by simp [PyData.eqvAll] at h
  | x :: xs, z :: c, h, hc => by
    rw [List.map_cons, PyData.eqvAll, Bool.and_eq_true] at h
    rw [List.all_cons, List.all_cons, eqv_among h.2 fun y hy => hc y (List.mem_cons_of_mem _ hy)]
    congr 1
    cases x with
    | int i =>
      have e : i = z := by simpa [PyData.eqv] using h.1
      subst e
      have := hc i (List.mem_cons_self ..)
      simp [amongB, this.1, this.2]
    | _ => rfl
theorem c_told (xs : List D) (c0 : D) (hx : ∀ x ∈ xs, tyD x ≠ none) (hl : xs.length ≤ 100000) : c__law_is_case_told_1 [.val (.tuple xs), .val c0, .no] = .ok (xs.map fun x => .bool (match x with | .int _ => true | _ => false)) := by
  unfold c__law_is_case_told_1
  simp only [dIx_t0, dIx_t1, dIx_l0, dIx_l1, toItems, itemsOf, runF, runL, startE, endF, endL, R.bind_ok, R.bind_exc, R.bind_stuck, gSeq, gIf, gSet, gOwn, gRet, gRetL, gRetO, gDrop, gTgt, gT, gsC, gsN, gN, gFor, gApp, gExt, gFrz, gNil, gExc, eVar, eC, e1, e2, eA, aNil, aCons, eTup, eLst, eCall, lCall, listR, eChain, tV, tAndD, tOrD, tNotD, eAnd, eOr, eNot, eIf, eL, lDisp, lList, lRep, oNone, oSome, eSl, iSeq, iRng1, iRng2, iZipD, iEnumD, iRevD, lListRange, lLc, eSorted, eSortSet, eLenSet, eBor, tBor, tYesD, noE, toB, dCmp, dSub, dNeg, dInt, dLen, dIs, dIsNot, List.map_cons, List.map_nil, List.length_cons, List.length_nil, Nat.reduceAdd, Nat.reduceSub, Nat.reduceLeDiff, List.replicate, List.cons_append, List.nil_append, List.append_nil, List.getElem?_cons_zero, List.getElem?_cons_succ, List.set_cons_zero, List.set_cons_succ, if_true, if_false, reduceIte, Bool.not_true, Bool.not_false, Bool.false_eq_true, reduceCtorEq]
  rw [if_pos ⟨hl, rfl⟩]
  rw [eachR_map (f := fun x => .bool (match x with | .int _ => true | _ => false))]
  intro x h
  unfold lcStep
  simp only [dIx_t0, dIx_t1, dIx_l0, dIx_l1, toItems, itemsOf, runF, runL, startE, endF, endL, R.bind_ok, R.bind_exc, R.bind_stuck, gSeq, gIf, gSet, gOwn, gRet, gRetL, gRetO, gDrop, gTgt, gT, gsC, gsN, gN, gFor, gApp, gExt, gFrz, gNil, gExc, eVar, eC, e1, e2, eA, aNil, aCons, eTup, eLst, eCall, lCall, listR, eChain, tV, tAndD, tOrD, tNotD, eAnd, eOr, eNot, eIf, eL, lDisp, lList, lRep, oNone, oSome, eSl, iSeq, iRng1, iRng2, iZipD, iEnumD, iRevD, lListRange, lLc, eSorted, eSortSet, eLenSet, eBor, tBor, tYesD, noE, toB, dCmp, dSub, dNeg, dInt, dLen, dIs, dIsNot, List.map_cons, List.map_nil, List.length_cons, List.length_nil, Nat.reduceAdd, Nat.reduceSub, Nat.reduceLeDiff, List.replicate, List.cons_append, List.nil_append, List.append_nil, List.getElem?_cons_zero, List.getElem?_cons_succ, List.set_cons_zero, List.set_cons_succ, if_true, if_false, reduceIte, Bool.not_true, Bool.not_false, Bool.false_eq_true, reduceCtorEq, wipeE, F__law_whole_eq x (hx x h)]
  cases x <;> rfl
theorem F__law_is_case_told_eq {m : Nat} (c : List Int) (hc : CaseOk m c) (t : D) (h : flatD t) : F__law_is_case_told [t, encC c] = .ok (.bool (alikeC c t)) := by
  unfold F__law_is_case_told g__law_is_case_told
  simp only [dIx_t0, dIx_t1, dIx_l0, dIx_l1, toItems, itemsOf, runF, runL, startE, endF, endL, R.bind_ok, R.bind_exc, R.bind_stuck, gSeq, gIf, gSet, gOwn, gRet, gRetL, gRetO, gDrop, gTgt, gT, gsC, gsN, gN, gFor, gApp, gExt, gFrz, gNil, gExc, eVar, eC, e1, e2, eA, aNil, aCons, eTup, eLst, eCall, lCall, listR, eChain, tV, tAndD, tOrD, tNotD, eAnd, eOr, eNot, eIf, eL, lDisp, lList, lRep, oNone, oSome, eSl, iSeq, iRng1, iRng2, iZipD, iEnumD, iRevD, lListRange, lLc, eSorted, eSortSet, eLenSet, eBor, tBor, tYesD, noE, toB, dCmp, dSub, dNeg, dInt, dLen, dIs, dIsNot, List.map_cons, List.map_nil, List.length_cons, List.length_nil, Nat.reduceAdd, Nat.reduceSub, Nat.reduceLeDiff, List.replicate, List.cons_append, List.nil_append, List.append_nil, List.getElem?_cons_zero, List.getElem?_cons_succ, List.set_cons_zero, List.set_cons_succ, if_true, if_false, reduceIte, Bool.not_true, Bool.not_false, Bool.false_eq_true, reduceCtorEq, isi_tuple t (ty_of_sh h.1)]
  cases t
  case tuple xs =>
    have hx := sh_of_tuple h.1
    have hl := h.2 xs rfl
    simp only [dIx_t0, dIx_t1, dIx_l0, dIx_l1, toItems, itemsOf, runF, runL, startE, endF, endL, R.bind_ok, R.bind_exc, R.bind_stuck, gSeq, gIf, gSet, gOwn, gRet, gRetL, gRetO, gDrop, gTgt, gT, gsC, gsN, gN, gFor, gApp, gExt, gFrz, gNil, gExc, eVar, eC, e1, e2, eA, aNil, aCons, eTup, eLst, eCall, lCall, listR, eChain, tV, tAndD, tOrD, tNotD, eAnd, eOr, eNot, eIf, eL, lDisp, lList, lRep, oNone, oSome, eSl, iSeq, iRng1, iRng2, iZipD, iEnumD, iRevD, lListRange, lLc, eSorted, eSortSet, eLenSet, eBor, tBor, tYesD, noE, toB, dCmp, dSub, dNeg, dInt, dLen, dIs, dIsNot, List.map_cons, List.map_nil, List.length_cons, List.length_nil, Nat.reduceAdd, Nat.reduceSub, Nat.reduceLeDiff, List.replicate, List.cons_append, List.nil_append, List.append_nil, List.getElem?_cons_zero, List.getElem?_cons_succ, List.set_cons_zero, List.set_cons_succ, if_true, if_false, reduceIte, Bool.not_true, Bool.not_false, Bool.false_eq_true, reduceCtorEq, dEq_sh h.1 (encC_sh c)]
    cases he : PyData.eqv (.tuple xs) (encC c)
    · simp only [dIx_t0, dIx_t1, dIx_l0, dIx_l1, toItems, itemsOf, runF, runL, startE, endF, endL, R.bind_ok, R.bind_exc, R.bind_stuck, gSeq, gIf, gSet, gOwn, gRet, gRetL, gRetO, gDrop, gTgt, gT, gsC, gsN, gN, gFor, gApp, gExt, gFrz, gNil, gExc, eVar, eC, e1, e2, eA, aNil, aCons, eTup, eLst, eCall, lCall, listR, eChain, tV, tAndD, tOrD, tNotD, eAnd, eOr, eNot, eIf, eL, lDisp, lList, lRep, oNone, oSome, eSl, iSeq, iRng1, iRng2, iZipD, iEnumD, iRevD, lListRange, lLc, eSorted, eSortSet, eLenSet, eBor, tBor, tYesD, noE, toB, dCmp, dSub, dNeg, dInt, dLen, dIs, dIsNot, List.map_cons, List.map_nil, List.length_cons, List.length_nil, Nat.reduceAdd, Nat.reduceSub, Nat.reduceLeDiff, List.replicate, List.cons_append, List.nil_append, List.append_nil, List.getElem?_cons_zero, List.getElem?_cons_succ, List.set_cons_zero, List.set_cons_succ, if_true, if_false, reduceIte, Bool.not_true, Bool.not_false, Bool.false_eq_true, reduceCtorEq, alikeC, he, Bool.false_and]
    · have he' : PyData.eqvAll xs (c.map PyData.int) = true := by simpa [encC, PyData.eqv] using he
      simp only [dIx_t0, dIx_t1, dIx_l0, dIx_l1, toItems, itemsOf, runF, runL, startE, endF, endL, R.bind_ok, R.bind_exc, R.bind_stuck, gSeq, gIf, gSet, gOwn, gRet, gRetL, gRetO, gDrop, gTgt, gT, gsC, gsN, gN, gFor, gApp, gExt, gFrz, gNil, gExc, eVar, eC, e1, e2, eA, aNil, aCons, eTup, eLst, eCall, lCall, listR, eChain, tV, tAndD, tOrD, tNotD, eAnd, eOr, eNot, eIf, eL, lDisp, lList, lRep, oNone, oSome, eSl, iSeq, iRng1, iRng2, iZipD, iEnumD, iRevD, lListRange, lLc, eSorted, eSortSet, eLenSet, eBor, tBor, tYesD, noE, toB, dCmp, dSub, dNeg, dInt, dLen, dIs, dIsNot, List.map_cons, List.map_nil, List.length_cons, List.length_nil, Nat.reduceAdd, Nat.reduceSub, Nat.reduceLeDiff, List.replicate, List.cons_append, List.nil_append, List.append_nil, List.getElem?_cons_zero, List.getElem?_cons_succ, List.set_cons_zero, List.set_cons_succ, if_true, if_false, reduceIte, Bool.not_true, Bool.not_false, Bool.false_eq_true, reduceCtorEq, c_told xs (encC c) (fun x hx' => ty_of_sh (hx x hx')) (by omega), alikeC, he, Bool.true_and, eqv_among he' hc.2]
      rw [map_bool_all (fun x : D => match x with | .int _ => true | _ => false)]
      simp only [dIx_t0, dIx_t1, dIx_l0, dIx_l1, toItems, itemsOf, runF, runL, startE, endF, endL, R.bind_ok, R.bind_exc, R.bind_stuck, gSeq, gIf, gSet, gOwn, gRet, gRetL, gRetO, gDrop, gTgt, gT, gsC, gsN, gN, gFor, gApp, gExt, gFrz, gNil, gExc, eVar, eC, e1, e2, eA, aNil, aCons, eTup, eLst, eCall, lCall, listR, eChain, tV, tAndD, tOrD, tNotD, eAnd, eOr, eNot, eIf, eL, lDisp, lList, lRep, oNone, oSome, eSl, iSeq, iRng1, iRng2, iZipD, iEnumD, iRevD, lListRange, lLc, eSorted, eSortSet, eLenSet, eBor, tBor, tYesD, noE, toB, dCmp, dSub, dNeg, dInt, dLen, dIs, dIsNot, List.map_cons, List.map_nil, List.length_cons, List.length_nil, Nat.reduceAdd, Nat.reduceSub, Nat.reduceLeDiff, List.replicate, List.cons_append, List.nil_append, List.append_nil, List.getElem?_cons_zero, List.getElem?_cons_succ, List.set_cons_zero, List.set_cons_succ, if_true, if_false, reduceIte, Bool.not_true, Bool.not_false, Bool.false_eq_true, reduceCtorEq]
  all_goals simp only [dIx_t0, dIx_t1, dIx_l0, dIx_l1, toItems, itemsOf, runF, runL, startE, endF, endL, R.bind_ok, R.bind_exc, R.bind_stuck, gSeq, gIf, gSet, gOwn, gRet, gRetL, gRetO, gDrop, gTgt, gT, gsC, gsN, gN, gFor, gApp, gExt, gFrz, gNil, gExc, eVar, eC, e1, e2, eA, aNil, aCons, eTup, eLst, eCall, lCall, listR, eChain, tV, tAndD, tOrD, tNotD, eAnd, eOr, eNot, eIf, eL, lDisp, lList, lRep, oNone, oSome, eSl, iSeq, iRng1, iRng2, iZipD, iEnumD, iRevD, lListRange, lLc, eSorted, eSortSet, eLenSet, eBor, tBor, tYesD, noE, toB, dCmp, dSub, dNeg, dInt, dLen, dIs, dIsNot, List.map_cons, List.map_nil, List.length_cons, List.length_nil, Nat.reduceAdd, Nat.reduceSub, Nat.reduceLeDiff, List.replicate, List.cons_append, List.nil_append, List.append_nil, List.getElem?_cons_zero, List.getElem?_cons_succ, List.set_cons_zero, List.set_cons_succ, if_true, if_false, reduceIte, Bool.not_true, Bool.not_false, Bool.false_eq_true, reduceCtorEq, alikeC]
theorem alikeC_enc {m : Nat} {c : List Int} (hc : CaseOk m c) {t : D} : alikeC c t = true ↔ t = encC c := by
  constructor
  · intro h
    cases t with
    | tuple xs =>
      simp only [alikeC, Bool.and_eq_true] at h
      obtain ⟨ns, rfl, _⟩ := all_among h.2
      have e := (eqv_exact _ _ (by simpa [exact] using exact_ints ns) (encC_exact c)).mp h.1
      exact e
    | _ => simp [alikeC] at h
  · rintro rfl
    have h1 : PyData.eqv (encC c) (encC c) = true := by rw [encC_eqv, decide_eq_true rfl]
    simp only [alikeC, encC, Bool.and_eq_true] at h1 ⊢
    refine ⟨h1, ?_⟩
    simp only [List.all_map, List.all_eq_true, Function.comp_def, amongB, Bool.and_eq_true, decide_eq_true_eq]
    exact hc.2
/-! ### the cases by what a weighing comes to -/
def cm (w : Wg) (c : List Int) : Int := cameI w.1 w.2 c
def WgOk (m : Nat) (w : Wg) : Prop := (∀ i ∈ w.1, 0 ≤ i ∧ i < (m : Int)) ∧ (∀ i ∈ w.2, 0 ≤ i ∧ i < (m : Int)) ∧ w.1.length ≤ 100 ∧ w.2.length ≤ 100
theorem came_eq {m : Nat} {w : Wg} {c : List Int} (hw : WgOk m w) (hc : CaseOk m c) : F_came [encW w, encC c] = .ok (.int (cm w c)) :=
  F_came_eq w.1 w.2 c (fun i hi => by have := hw.1 i hi; rw [hc.1]; exact this) (fun i hi => by have := hw.2.1 i hi; rw [hc.1]; exact this) (by have := hw.2.2.1; omega) (by have := hw.2.2.2; omega)
theorem lcame_eq {m : Nat} {w : Wg} {c : List Int} (hw : WgOk m w) (hc : CaseOk m c) : F__law_came [encW w, encC c] = .ok (.int (cm w c)) :=
  F__law_came_eq w.1 w.2 c (fun i hi => by have := hw.1 i hi; rw [hc.1]; exact this) (fun i hi => by have := hw.2.1 i hi; rw [hc.1]; exact this)
def byW (w : Wg) (d : Int) (cs : List (List Int)) : List (List Int) := cs.filter fun c => decide (cm w c = d)
theorem map_filter_enc (p : List Int → Bool) (q : D → Bool) (h : ∀ c, q (encC c) = p c) (cs : List (List Int)) : ((cs.map encC).filter q) = (cs.filter p).map encC := by
  rw [List.filter_map]
  congr 1
  exact List.filter_congr fun c _ => h c
theorem each_enc {step : D → R (List D)} {p : List Int → Bool} : ∀ {cs : List (List Int)}, (∀ c ∈ cs, step (encC c) = .ok (if p c = true then [encC c] else [])) → eachR step (cs.map encC) = .ok ((cs.filter p).map encC)
  | [], _ => rfl
  | c :: cs, h => by
    rw [List.map_cons, eachR, h c (List.mem_cons_self ..), R.bind_ok, each_enc (p := p) fun d hd => h d (List.mem_cons_of_mem _ hd), R.bind_ok]
    by_cases hp : p c = true <;> simp [hp]
theorem F_cases_by_eq {m : Nat} {w : Wg} (hw : WgOk m w) {cs : List (List Int)} (hc : ∀ c ∈ cs, CaseOk m c) (hl : cs.length ≤ 100) (d : Int) : F_cases_by [encW w, .list (cs.map encC), .int d] = .ok (.list ((byW w d cs).map encC)) := by
  have key : c_cases_by_1 [.val (encW w), .val (.list (cs.map encC)), .val (.int d), .no] = .ok ((byW w d cs).map encC) := by
    unfold c_cases_by_1
    simp only [dIx_t0, dIx_t1, dIx_l0, dIx_l1, toItems, itemsOf, runF, runL, startE, endF, endL, R.bind_ok, R.bind_exc, R.bind_stuck, gSeq, gIf, gSet, gOwn, gRet, gRetL, gRetO, gDrop, gTgt, gT, gsC, gsN, gN, gFor, gApp, gExt, gFrz, gNil, gExc, eVar, eC, e1, e2, eA, aNil, aCons, eTup, eLst, eCall, lCall, listR, eChain, tV, tAndD, tOrD, tNotD, eAnd, eOr, eNot, eIf, eL, lDisp, lList, lRep, oNone, oSome, eSl, iSeq, iRng1, iRng2, iZipD, iEnumD, iRevD, lListRange, lLc, eSorted, eSortSet, eLenSet, eBor, tBor, tYesD, noE, toB, dCmp, dSub, dNeg, dInt, dLen, dIs, dIsNot, List.map_cons, List.map_nil, List.length_cons, List.length_nil, Nat.reduceAdd, Nat.reduceSub, Nat.reduceLeDiff, List.replicate, List.cons_append, List.nil_append, List.append_nil, List.getElem?_cons_zero, List.getElem?_cons_succ, List.set_cons_zero, List.set_cons_succ, if_true, if_false, reduceIte, Bool.not_true, Bool.not_false, Bool.false_eq_true, reduceCtorEq]
    rw [if_pos ⟨by rw [List.length_map]; omega, rfl⟩]
    refine noE_of ?_
    refine each_enc fun c h => ?_
    unfold lcStep
    simp only [dIx_t0, dIx_t1, dIx_l0, dIx_l1, toItems, itemsOf, runF, runL, startE, endF, endL, R.bind_ok, R.bind_exc, R.bind_stuck, gSeq, gIf, gSet, gOwn, gRet, gRetL, gRetO, gDrop, gTgt, gT, gsC, gsN, gN, gFor, gApp, gExt, gFrz, gNil, gExc, eVar, eC, e1, e2, eA, aNil, aCons, eTup, eLst, eCall, lCall, listR, eChain, tV, tAndD, tOrD, tNotD, eAnd, eOr, eNot, eIf, eL, lDisp, lList, lRep, oNone, oSome, eSl, iSeq, iRng1, iRng2, iZipD, iEnumD, iRevD, lListRange, lLc, eSorted, eSortSet, eLenSet, eBor, tBor, tYesD, noE, toB, dCmp, dSub, dNeg, dInt, dLen, dIs, dIsNot, List.map_cons, List.map_nil, List.length_cons, List.length_nil, Nat.reduceAdd, Nat.reduceSub, Nat.reduceLeDiff, List.replicate, List.cons_append, List.nil_append, List.append_nil, List.getElem?_cons_zero, List.getElem?_cons_succ, List.set_cons_zero, List.set_cons_succ, if_true, if_false, reduceIte, Bool.not_true, Bool.not_false, Bool.false_eq_true, reduceCtorEq, wipeE, came_eq hw (hc c h), dEq_int]
    by_cases h : cm w c = d
    · simp only [dIx_t0, dIx_t1, dIx_l0, dIx_l1, toItems, itemsOf, runF, runL, startE, endF, endL, R.bind_ok, R.bind_exc, R.bind_stuck, gSeq, gIf, gSet, gOwn, gRet, gRetL, gRetO, gDrop, gTgt, gT, gsC, gsN, gN, gFor, gApp, gExt, gFrz, gNil, gExc, eVar, eC, e1, e2, eA, aNil, aCons, eTup, eLst, eCall, lCall, listR, eChain, tV, tAndD, tOrD, tNotD, eAnd, eOr, eNot, eIf, eL, lDisp, lList, lRep, oNone, oSome, eSl, iSeq, iRng1, iRng2, iZipD, iEnumD, iRevD, lListRange, lLc, eSorted, eSortSet, eLenSet, eBor, tBor, tYesD, noE, toB, dCmp, dSub, dNeg, dInt, dLen, dIs, dIsNot, List.map_cons, List.map_nil, List.length_cons, List.length_nil, Nat.reduceAdd, Nat.reduceSub, Nat.reduceLeDiff, List.replicate, List.cons_append, List.nil_append, List.append_nil, List.getElem?_cons_zero, List.getElem?_cons_succ, List.set_cons_zero, List.set_cons_succ, if_true, if_false, reduceIte, Bool.not_true, Bool.not_false, Bool.false_eq_true, reduceCtorEq, decide_eq_true h]
    · simp only [dIx_t0, dIx_t1, dIx_l0, dIx_l1, toItems, itemsOf, runF, runL, startE, endF, endL, R.bind_ok, R.bind_exc, R.bind_stuck, gSeq, gIf, gSet, gOwn, gRet, gRetL, gRetO, gDrop, gTgt, gT, gsC, gsN, gN, gFor, gApp, gExt, gFrz, gNil, gExc, eVar, eC, e1, e2, eA, aNil, aCons, eTup, eLst, eCall, lCall, listR, eChain, tV, tAndD, tOrD, tNotD, eAnd, eOr, eNot, eIf, eL, lDisp, lList, lRep, oNone, oSome, eSl, iSeq, iRng1, iRng2, iZipD, iEnumD, iRevD, lListRange, lLc, eSorted, eSortSet, eLenSet, eBor, tBor, tYesD, noE, toB, dCmp, dSub, dNeg, dInt, dLen, dIs, dIsNot, List.map_cons, List.map_nil, List.length_cons, List.length_nil, Nat.reduceAdd, Nat.reduceSub, Nat.reduceLeDiff, List.replicate, List.cons_append, List.nil_append, List.append_nil, List.getElem?_cons_zero, List.getElem?_cons_succ, List.set_cons_zero, List.set_cons_succ, if_true, if_false, reduceIte, Bool.not_true, Bool.not_false, Bool.false_eq_true, reduceCtorEq, decide_eq_false h]
  unfold F_cases_by g_cases_by
  simp only [dIx_t0, dIx_t1, dIx_l0, dIx_l1, toItems, itemsOf, runF, runL, startE, endF, endL, R.bind_ok, R.bind_exc, R.bind_stuck, gSeq, gIf, gSet, gOwn, gRet, gRetL, gRetO, gDrop, gTgt, gT, gsC, gsN, gN, gFor, gApp, gExt, gFrz, gNil, gExc, eVar, eC, e1, e2, eA, aNil, aCons, eTup, eLst, eCall, lCall, listR, eChain, tV, tAndD, tOrD, tNotD, eAnd, eOr, eNot, eIf, eL, lDisp, lList, lRep, oNone, oSome, eSl, iSeq, iRng1, iRng2, iZipD, iEnumD, iRevD, lListRange, lLc, eSorted, eSortSet, eLenSet, eBor, tBor, tYesD, noE, toB, dCmp, dSub, dNeg, dInt, dLen, dIs, dIsNot, List.map_cons, List.map_nil, List.length_cons, List.length_nil, Nat.reduceAdd, Nat.reduceSub, Nat.reduceLeDiff, List.replicate, List.cons_append, List.nil_append, List.append_nil, List.getElem?_cons_zero, List.getElem?_cons_succ, List.set_cons_zero, List.set_cons_succ, if_true, if_false, reduceIte, Bool.not_true, Bool.not_false, Bool.false_eq_true, reduceCtorEq, key]
end W

set_option Elab.async false
set_option linter.all false
set_option maxRecDepth 100000
set_option maxHeartbeats 1000000
namespace W
open PySem PL
abbrev sTold : Str := Str.ofString "told"
abbrev sWeigh : Str := Str.ofString "weigh"
theorem okTold : PyData.strOk sTold = true := by decide +kernel
theorem okWeigh : PyData.strOk sWeigh = true := by decide +kernel
theorem told_ne : sWeigh ≠ sTold := by decide +kernel
def decW : D → Option Wg
  | .tuple [.tuple a, .tuple b] => match intsOf a, intsOf b with
    | some a, some b => some (a, b)
    | _, _ => none
  | _ => none
theorem decW_enc (w : Wg) : decW (encW w) = some w := by simp [decW, encW, intsOf_map]
/-- the part for those that come to d -/
def partB (f : List (List Int) → D → Bool) (cs : List (List Int)) (w : Wg) (d : Int) (p : D) : Bool := match byW w d cs with
  | [] => (match p with | .none => true | _ => false)
  | c :: r => f (c :: r) p
def weighB (f : List (List Int) → D → Bool) (m : Int) (cs : List (List Int)) (x : D) (rest : List D) : Bool := match rest with
  | [.tuple [p0, p1, p2]] => isW m x && (match decW x with
    | some w => partB f cs w (-1) p0 && (partB f cs w 0 p1 && partB f cs w 1 p2)
    | none => false)
  | _ => false
def toldB (cs : List (List Int)) (x : D) (rest : List D) : Bool := match rest, cs with
  | [], [c] => alikeC c x
  | _, _ => false
def topB (m : Int) (cs : List (List Int)) (t : D) (f : List (List Int) → D → Bool) : Bool := match t with
  | .tuple (.str s :: x :: rest) => if s = sTold then toldB cs x rest else if s = sWeigh then weighB f m cs x rest else false
  | _ => false
def planB (m : Int) : Nat → List (List Int) → D → Bool
  | 0, cs, t => topB m cs t fun _ _ => false
  | k + 1, cs, t => topB m cs t (planB m k)
/-- what may be looked at, k plans deep -/
def lookW (x : D) : Prop := sh 60 x ∧ ∀ us, x = .tuple us → us.length ≤ 30 ∧ ∀ ys, .tuple ys ∈ us → ys.length ≤ 30
theorem lookW.flat {x : D} (h : lookW x) : flatD x := ⟨h.1, fun xs e => Nat.le_trans (h.2 xs e).1 (by decide)⟩
def fineT (m : Int) (t : D) (f : D → Prop) : Prop := tyD t ≠ none ∧ ∀ xs, t = .tuple xs → (∀ y ∈ xs, tyD y ≠ none) ∧ ∀ s x rest, xs = .str s :: x :: rest → PyData.strOk s = true ∧ lookW x ∧ ∀ ps, rest = [.tuple ps] → (∀ p ∈ ps, tyD p ≠ none) ∧ (s = sWeigh → isW m x = true → ∀ p ∈ ps, f p)
def fineP (m : Int) : Nat → D → Prop
  | 0, t => fineT m t fun _ => False
  | k + 1, t => fineT m t (fineP m k)
theorem isW_enc {m : Nat} {x : D} (h : isW m x = true) : ∃ w : Wg, x = encW w ∧ w.1.Pairwise (· < ·) ∧ w.2.Pairwise (· < ·) ∧ (∀ i ∈ w.1, 0 ≤ i ∧ i < (m : Int)) ∧ (∀ i ∈ w.2, 0 ≤ i ∧ i < (m : Int)) ∧ w.1 ≠ [] ∧ w.2 ≠ [] := by
  unfold isW at h
  split at h
  · rename_i a b
    simp only [Bool.and_eq_true] at h
    obtain ⟨h1, h2, h3⟩ := h
    obtain ⟨xs, rfl⟩ := isPan_tuple h1
    obtain ⟨ys, rfl⟩ := isPan_tuple h2
    obtain ⟨ns, rfl, n1, n2, n3⟩ := isPan_ints h1
    obtain ⟨ms, rfl, m1, m2, m3⟩ := isPan_ints h2
    exact ⟨(ns, ms), rfl, n1, m1, n3, m3, n2, m2⟩
  · cases h
theorem isW_ok {m : Nat} {w : Wg} (h : isW m (encW w) = true) (hl : lookW (encW w)) : WgOk m w := by
  obtain ⟨w', e, _, _, h1, h2, _, _⟩ := isW_enc h
  have e' : w = w' := by
    have := congrArg decW e
    rw [decW_enc, decW_enc] at this
    exact Option.some.inj this
  subst e'
  obtain ⟨_, h3⟩ := hl
  obtain ⟨_, h4⟩ := h3 _ rfl
  have l1 := h4 (w.1.map PyData.int) (by simp)
  have l2 := h4 (w.2.map PyData.int) (by simp)
  rw [List.length_map] at l1 l2
  exact ⟨h1, h2, by omega, by omega⟩
theorem dEq_nil {cs : List (List Int)} : dEq (.list (cs.map encC)) (.list []) = .ok (.bool (cs.isEmpty)) := by
  rw [dEq_sh (n := 2) (sh_list (n := 1) fun x hx => by obtain ⟨c, _, rfl⟩ := List.mem_map.mp hx; exact encC_sh c) (sh_list (n := 1) (xs := []) (by simp))]
  cases cs <;> simp [PyData.eqv, PyData.eqvAll]
/-- what the two looks ask of the callee -/
def Calls (m : Nat) (R : List D → R D) (f : List (List Int) → D → Bool) (p : D) : Prop := ∀ l : List (List Int), l ≠ [] → (∀ c ∈ l, CaseOk m c) → l.length ≤ 100 → R [.int m, .list (l.map encC), p] = .ok (.bool (f l p))
theorem parts_step {m : Nat} {w : Wg} (hw : WgOk m w) {cs : List (List Int)} (hc : ∀ c ∈ cs, CaseOk m c) (hl : cs.length ≤ 100) {Ra Rp : List D → R D} {f : List (List Int) → D → Bool} (d : Int) (p q : D) (s6 : PL.Slot noObj) (hR : Calls m Rp f p) :
    ∃ s6', g_are_parts_L1 Ra Rp [.val (.int m), .val (encW w), .val (.list (cs.map encC)), .val q, .val (.int d), .val p, s6] =
      if partB f cs w d p = true then .ok (.nx, [.val (.int m), .val (encW w), .val (.list (cs.map encC)), .val q, .val (.int d), .val p, s6']) else .ok (.rt (.bool false), [.val (.int m), .val (encW w), .val (.list (cs.map encC)), .val q, .val (.int d), .val p, s6']) := by
  refine ⟨.val (.list ((byW w d cs).map encC)), ?_⟩
  unfold g_are_parts_L1
  simp only [dIx_t0, dIx_t1, dIx_l0, dIx_l1, toItems, itemsOf, runF, runL, startE, endF, endL, R.bind_ok, R.bind_exc, R.bind_stuck, gSeq, gIf, gSet, gOwn, gRet, gRetL, gRetO, gDrop, gTgt, gT, gsC, gsN, gN, gFor, gApp, gExt, gFrz, gNil, gExc, eVar, eC, e1, e2, eA, aNil, aCons, eTup, eLst, eCall, lCall, listR, eChain, tV, tAndD, tOrD, tNotD, eAnd, eOr, eNot, eIf, eL, lDisp, lList, lRep, oNone, oSome, eSl, iSeq, iRng1, iRng2, iZipD, iEnumD, iRevD, lListRange, lLc, eSorted, eSortSet, eLenSet, eBor, tBor, tYesD, noE, toB, dCmp, dSub, dNeg, dInt, dLen, dIs, dIsNot, List.map_cons, List.map_nil, List.length_cons, List.length_nil, Nat.reduceAdd, Nat.reduceSub, Nat.reduceLeDiff, List.replicate, List.cons_append, List.nil_append, List.append_nil, List.getElem?_cons_zero, List.getElem?_cons_succ, List.set_cons_zero, List.set_cons_succ, if_true, if_false, reduceIte, Bool.not_true, Bool.not_false, Bool.false_eq_true, reduceCtorEq, F_cases_by_eq hw hc hl d, dEq_nil]
  have hcb : ∀ c ∈ byW w d cs, CaseOk m c := fun c h => hc c (List.mem_filter.mp h).1
  have hlb : (byW w d cs).length ≤ 100 := Nat.le_trans (List.length_filter_le _ _) hl
  unfold partB
  cases hb : byW w d cs with
  | nil =>
    simp only [dIx_t0, dIx_t1, dIx_l0, dIx_l1, toItems, itemsOf, runF, runL, startE, endF, endL, R.bind_ok, R.bind_exc, R.bind_stuck, gSeq, gIf, gSet, gOwn, gRet, gRetL, gRetO, gDrop, gTgt, gT, gsC, gsN, gN, gFor, gApp, gExt, gFrz, gNil, gExc, eVar, eC, e1, e2, eA, aNil, aCons, eTup, eLst, eCall, lCall, listR, eChain, tV, tAndD, tOrD, tNotD, eAnd, eOr, eNot, eIf, eL, lDisp, lList, lRep, oNone, oSome, eSl, iSeq, iRng1, iRng2, iZipD, iEnumD, iRevD, lListRange, lLc, eSorted, eSortSet, eLenSet, eBor, tBor, tYesD, noE, toB, dCmp, dSub, dNeg, dInt, dLen, dIs, dIsNot, List.map_cons, List.map_nil, List.length_cons, List.length_nil, Nat.reduceAdd, Nat.reduceSub, Nat.reduceLeDiff, List.replicate, List.cons_append, List.nil_append, List.append_nil, List.getElem?_cons_zero, List.getElem?_cons_succ, List.set_cons_zero, List.set_cons_succ, if_true, if_false, reduceIte, Bool.not_true, Bool.not_false, Bool.false_eq_true, reduceCtorEq, List.isEmpty_nil]
    cases p <;> simp only [dIx_t0, dIx_t1, dIx_l0, dIx_l1, toItems, itemsOf, runF, runL, startE, endF, endL, R.bind_ok, R.bind_exc, R.bind_stuck, gSeq, gIf, gSet, gOwn, gRet, gRetL, gRetO, gDrop, gTgt, gT, gsC, gsN, gN, gFor, gApp, gExt, gFrz, gNil, gExc, eVar, eC, e1, e2, eA, aNil, aCons, eTup, eLst, eCall, lCall, listR, eChain, tV, tAndD, tOrD, tNotD, eAnd, eOr, eNot, eIf, eL, lDisp, lList, lRep, oNone, oSome, eSl, iSeq, iRng1, iRng2, iZipD, iEnumD, iRevD, lListRange, lLc, eSorted, eSortSet, eLenSet, eBor, tBor, tYesD, noE, toB, dCmp, dSub, dNeg, dInt, dLen, dIs, dIsNot, List.map_cons, List.map_nil, List.length_cons, List.length_nil, Nat.reduceAdd, Nat.reduceSub, Nat.reduceLeDiff, List.replicate, List.cons_append, List.nil_append, List.append_nil, List.getElem?_cons_zero, List.getElem?_cons_succ, List.set_cons_zero, List.set_cons_succ, if_true, if_false, reduceIte, Bool.not_true, Bool.not_false, Bool.false_eq_true, reduceCtorEq]
  | cons c r =>
    rw [hb] at hcb hlb
    simp only [dIx_t0, dIx_t1, dIx_l0, dIx_l1, toItems, itemsOf, runF, runL, startE, endF, endL, R.bind_ok, R.bind_exc, R.bind_stuck, gSeq, gIf, gSet, gOwn, gRet, gRetL, gRetO, gDrop, gTgt, gT, gsC, gsN, gN, gFor, gApp, gExt, gFrz, gNil, gExc, eVar, eC, e1, e2, eA, aNil, aCons, eTup, eLst, eCall, lCall, listR, eChain, tV, tAndD, tOrD, tNotD, eAnd, eOr, eNot, eIf, eL, lDisp, lList, lRep, oNone, oSome, eSl, iSeq, iRng1, iRng2, iZipD, iEnumD, iRevD, lListRange, lLc, eSorted, eSortSet, eLenSet, eBor, tBor, tYesD, noE, toB, dCmp, dSub, dNeg, dInt, dLen, dIs, dIsNot, List.map_cons, List.map_nil, List.length_cons, List.length_nil, Nat.reduceAdd, Nat.reduceSub, Nat.reduceLeDiff, List.replicate, List.cons_append, List.nil_append, List.append_nil, List.getElem?_cons_zero, List.getElem?_cons_succ, List.set_cons_zero, List.set_cons_succ, if_true, if_false, reduceIte, Bool.not_true, Bool.not_false, Bool.false_eq_true, reduceCtorEq, List.isEmpty_cons]
    have e := hR (c :: r) (by simp) hcb hlb
    rw [List.map_cons] at e
    simp only [dIx_t0, dIx_t1, dIx_l0, dIx_l1, toItems, itemsOf, runF, runL, startE, endF, endL, R.bind_ok, R.bind_exc, R.bind_stuck, gSeq, gIf, gSet, gOwn, gRet, gRetL, gRetO, gDrop, gTgt, gT, gsC, gsN, gN, gFor, gApp, gExt, gFrz, gNil, gExc, eVar, eC, e1, e2, eA, aNil, aCons, eTup, eLst, eCall, lCall, listR, eChain, tV, tAndD, tOrD, tNotD, eAnd, eOr, eNot, eIf, eL, lDisp, lList, lRep, oNone, oSome, eSl, iSeq, iRng1, iRng2, iZipD, iEnumD, iRevD, lListRange, lLc, eSorted, eSortSet, eLenSet, eBor, tBor, tYesD, noE, toB, dCmp, dSub, dNeg, dInt, dLen, dIs, dIsNot, List.map_cons, List.map_nil, List.length_cons, List.length_nil, Nat.reduceAdd, Nat.reduceSub, Nat.reduceLeDiff, List.replicate, List.cons_append, List.nil_append, List.append_nil, List.getElem?_cons_zero, List.getElem?_cons_succ, List.set_cons_zero, List.set_cons_succ, if_true, if_false, reduceIte, Bool.not_true, Bool.not_false, Bool.false_eq_true, reduceCtorEq, e]
    cases f (c :: r) p <;> simp only [dIx_t0, dIx_t1, dIx_l0, dIx_l1, toItems, itemsOf, runF, runL, startE, endF, endL, R.bind_ok, R.bind_exc, R.bind_stuck, gSeq, gIf, gSet, gOwn, gRet, gRetL, gRetO, gDrop, gTgt, gT, gsC, gsN, gN, gFor, gApp, gExt, gFrz, gNil, gExc, eVar, eC, e1, e2, eA, aNil, aCons, eTup, eLst, eCall, lCall, listR, eChain, tV, tAndD, tOrD, tNotD, eAnd, eOr, eNot, eIf, eL, lDisp, lList, lRep, oNone, oSome, eSl, iSeq, iRng1, iRng2, iZipD, iEnumD, iRevD, lListRange, lLc, eSorted, eSortSet, eLenSet, eBor, tBor, tYesD, noE, toB, dCmp, dSub, dNeg, dInt, dLen, dIs, dIsNot, List.map_cons, List.map_nil, List.length_cons, List.length_nil, Nat.reduceAdd, Nat.reduceSub, Nat.reduceLeDiff, List.replicate, List.cons_append, List.nil_append, List.append_nil, List.getElem?_cons_zero, List.getElem?_cons_succ, List.set_cons_zero, List.set_cons_succ, if_true, if_false, reduceIte, Bool.not_true, Bool.not_false, Bool.false_eq_true, reduceCtorEq]
theorem F_are_parts_eq {m : Nat} {w : Wg} (hw : WgOk m w) {cs : List (List Int)} (hc : ∀ c ∈ cs, CaseOk m c) (hl : cs.length ≤ 100) {n : Nat} {f : List (List Int) → D → Bool} (p0 p1 p2 : D) (h0 : Calls m (F_is_plan_for n) f p0) (h1 : Calls m (F_is_plan_for n) f p1) (h2 : Calls m (F_is_plan_for n) f p2) :
    F_are_parts (n + 1) [.int m, encW w, .list (cs.map encC), .tuple [p0, p1, p2]] = .ok (.bool (partB f cs w (-1) p0 && (partB f cs w 0 p1 && partB f cs w 1 p2))) := by
  show runF 7 (g_are_parts (F_are_parts n) (F_is_plan_for n)) _ = _
  obtain ⟨a0, e0⟩ := parts_step (Ra := F_are_parts n) hw hc hl (-1) p0 (.tuple [p0, p1, p2]) .no h0
  obtain ⟨a1, e1'⟩ := parts_step (Ra := F_are_parts n) hw hc hl 0 p1 (.tuple [p0, p1, p2]) a0 h1
  obtain ⟨a2, e2'⟩ := parts_step (Ra := F_are_parts n) hw hc hl 1 p2 (.tuple [p0, p1, p2]) a1 h2
  unfold g_are_parts
  simp only [dIx_t0, dIx_t1, dIx_l0, dIx_l1, toItems, itemsOf, runF, runL, startE, endF, endL, R.bind_ok, R.bind_exc, R.bind_stuck, gSeq, gIf, gSet, gOwn, gRet, gRetL, gRetO, gDrop, gTgt, gT, gsC, gsN, gN, gFor, gApp, gExt, gFrz, gNil, gExc, eVar, eC, e1, e2, eA, aNil, aCons, eTup, eLst, eCall, lCall, listR, eChain, tV, tAndD, tOrD, tNotD, eAnd, eOr, eNot, eIf, eL, lDisp, lList, lRep, oNone, oSome, eSl, iSeq, iRng1, iRng2, iZipD, iEnumD, iRevD, lListRange, lLc, eSorted, eSortSet, eLenSet, eBor, tBor, tYesD, noE, toB, dCmp, dSub, dNeg, dInt, dLen, dIs, dIsNot, List.map_cons, List.map_nil, List.length_cons, List.length_nil, Nat.reduceAdd, Nat.reduceSub, Nat.reduceLeDiff, List.replicate, List.cons_append, List.nil_append, List.append_nil, List.getElem?_cons_zero, List.getElem?_cons_succ, List.set_cons_zero, List.set_cons_succ, if_true, if_false, reduceIte, Bool.not_true, Bool.not_false, Bool.false_eq_true, reduceCtorEq, zipD, loopF, e0]
  cases partB f cs w (-1) p0
  · simp only [dIx_t0, dIx_t1, dIx_l0, dIx_l1, toItems, itemsOf, runF, runL, startE, endF, endL, R.bind_ok, R.bind_exc, R.bind_stuck, gSeq, gIf, gSet, gOwn, gRet, gRetL, gRetO, gDrop, gTgt, gT, gsC, gsN, gN, gFor, gApp, gExt, gFrz, gNil, gExc, eVar, eC, e1, e2, eA, aNil, aCons, eTup, eLst, eCall, lCall, listR, eChain, tV, tAndD, tOrD, tNotD, eAnd, eOr, eNot, eIf, eL, lDisp, lList, lRep, oNone, oSome, eSl, iSeq, iRng1, iRng2, iZipD, iEnumD, iRevD, lListRange, lLc, eSorted, eSortSet, eLenSet, eBor, tBor, tYesD, noE, toB, dCmp, dSub, dNeg, dInt, dLen, dIs, dIsNot, List.map_cons, List.map_nil, List.length_cons, List.length_nil, Nat.reduceAdd, Nat.reduceSub, Nat.reduceLeDiff, List.replicate, List.cons_append, List.nil_append, List.append_nil, List.getElem?_cons_zero, List.getElem?_cons_succ, List.set_cons_zero, List.set_cons_succ, if_true, if_false, reduceIte, Bool.not_true, Bool.not_false, Bool.false_eq_true, reduceCtorEq, Bool.false_and]
  · simp only [dIx_t0, dIx_t1, dIx_l0, dIx_l1, toItems, itemsOf, runF, runL, startE, endF, endL, R.bind_ok, R.bind_exc, R.bind_stuck, gSeq, gIf, gSet, gOwn, gRet, gRetL, gRetO, gDrop, gTgt, gT, gsC, gsN, gN, gFor, gApp, gExt, gFrz, gNil, gExc, eVar, eC, e1, e2, eA, aNil, aCons, eTup, eLst, eCall, lCall, listR, eChain, tV, tAndD, tOrD, tNotD, eAnd, eOr, eNot, eIf, eL, lDisp, lList, lRep, oNone, oSome, eSl, iSeq, iRng1, iRng2, iZipD, iEnumD, iRevD, lListRange, lLc, eSorted, eSortSet, eLenSet, eBor, tBor, tYesD, noE, toB, dCmp, dSub, dNeg, dInt, dLen, dIs, dIsNot, List.map_cons, List.map_nil, List.length_cons, List.length_nil, Nat.reduceAdd, Nat.reduceSub, Nat.reduceLeDiff, List.replicate, List.cons_append, List.nil_append, List.append_nil, List.getElem?_cons_zero, List.getElem?_cons_succ, List.set_cons_zero, List.set_cons_succ, if_true, if_false, reduceIte, Bool.not_true, Bool.not_false, Bool.false_eq_true, reduceCtorEq, Bool.true_and, e1']
    cases partB f cs w 0 p1
    · simp only [dIx_t0, dIx_t1, dIx_l0, dIx_l1, toItems, itemsOf, runF, runL, startE, endF, endL, R.bind_ok, R.bind_exc, R.bind_stuck, gSeq, gIf, gSet, gOwn, gRet, gRetL, gRetO, gDrop, gTgt, gT, gsC, gsN, gN, gFor, gApp, gExt, gFrz, gNil, gExc, eVar, eC, e1, e2, eA, aNil, aCons, eTup, eLst, eCall, lCall, listR, eChain, tV, tAndD, tOrD, tNotD, eAnd, eOr, eNot, eIf, eL, lDisp, lList, lRep, oNone, oSome, eSl, iSeq, iRng1, iRng2, iZipD, iEnumD, iRevD, lListRange, lLc, eSorted, eSortSet, eLenSet, eBor, tBor, tYesD, noE, toB, dCmp, dSub, dNeg, dInt, dLen, dIs, dIsNot, List.map_cons, List.map_nil, List.length_cons, List.length_nil, Nat.reduceAdd, Nat.reduceSub, Nat.reduceLeDiff, List.replicate, List.cons_append, List.nil_append, List.append_nil, List.getElem?_cons_zero, List.getElem?_cons_succ, List.set_cons_zero, List.set_cons_succ, if_true, if_false, reduceIte, Bool.not_true, Bool.not_false, Bool.false_eq_true, reduceCtorEq, Bool.false_and]
    · simp only [dIx_t0, dIx_t1, dIx_l0, dIx_l1, toItems, itemsOf, runF, runL, startE, endF, endL, R.bind_ok, R.bind_exc, R.bind_stuck, gSeq, gIf, gSet, gOwn, gRet, gRetL, gRetO, gDrop, gTgt, gT, gsC, gsN, gN, gFor, gApp, gExt, gFrz, gNil, gExc, eVar, eC, e1, e2, eA, aNil, aCons, eTup, eLst, eCall, lCall, listR, eChain, tV, tAndD, tOrD, tNotD, eAnd, eOr, eNot, eIf, eL, lDisp, lList, lRep, oNone, oSome, eSl, iSeq, iRng1, iRng2, iZipD, iEnumD, iRevD, lListRange, lLc, eSorted, eSortSet, eLenSet, eBor, tBor, tYesD, noE, toB, dCmp, dSub, dNeg, dInt, dLen, dIs, dIsNot, List.map_cons, List.map_nil, List.length_cons, List.length_nil, Nat.reduceAdd, Nat.reduceSub, Nat.reduceLeDiff, List.replicate, List.cons_append, List.nil_append, List.append_nil, List.getElem?_cons_zero, List.getElem?_cons_succ, List.set_cons_zero, List.set_cons_succ, if_true, if_false, reduceIte, Bool.not_true, Bool.not_false, Bool.false_eq_true, reduceCtorEq, Bool.true_and, e2']
      cases partB f cs w 1 p2 <;> simp only [dIx_t0, dIx_t1, dIx_l0, dIx_l1, toItems, itemsOf, runF, runL, startE, endF, endL, R.bind_ok, R.bind_exc, R.bind_stuck, gSeq, gIf, gSet, gOwn, gRet, gRetL, gRetO, gDrop, gTgt, gT, gsC, gsN, gN, gFor, gApp, gExt, gFrz, gNil, gExc, eVar, eC, e1, e2, eA, aNil, aCons, eTup, eLst, eCall, lCall, listR, eChain, tV, tAndD, tOrD, tNotD, eAnd, eOr, eNot, eIf, eL, lDisp, lList, lRep, oNone, oSome, eSl, iSeq, iRng1, iRng2, iZipD, iEnumD, iRevD, lListRange, lLc, eSorted, eSortSet, eLenSet, eBor, tBor, tYesD, noE, toB, dCmp, dSub, dNeg, dInt, dLen, dIs, dIsNot, List.map_cons, List.map_nil, List.length_cons, List.length_nil, Nat.reduceAdd, Nat.reduceSub, Nat.reduceLeDiff, List.replicate, List.cons_append, List.nil_append, List.append_nil, List.getElem?_cons_zero, List.getElem?_cons_succ, List.set_cons_zero, List.set_cons_succ, if_true, if_false, reduceIte, Bool.not_true, Bool.not_false, Bool.false_eq_true, reduceCtorEq]
theorem ix2 (a b c : D) (r : List D) : dIx (.tuple (a :: b :: c :: r)) (.int 2) = .ok c := dIx_tup (by decide) rfl
theorem top_eq {m : Nat} {cs : List (List Int)} (hc : ∀ c ∈ cs, CaseOk m c) (hl : cs.length ≤ 100) {n : Nat} {f : List (List Int) → D → Bool} {g : D → Prop} (t : D) (ht : fineT m t g) (hg : ∀ p, g p → ∃ n', n = n' + 1 ∧ Calls m (F_is_plan_for n') f p) :
    F_is_plan_for (n + 1) [.int m, .list (cs.map encC), t] = .ok (.bool (topB m cs t f)) := by
  show runF 3 (g_is_plan_for (F_are_parts n) (F_is_plan_for n)) _ = _
  unfold g_is_plan_for
  simp only [dIx_t0, dIx_t1, dIx_l0, dIx_l1, toItems, itemsOf, runF, runL, startE, endF, endL, R.bind_ok, R.bind_exc, R.bind_stuck, gSeq, gIf, gSet, gOwn, gRet, gRetL, gRetO, gDrop, gTgt, gT, gsC, gsN, gN, gFor, gApp, gExt, gFrz, gNil, gExc, eVar, eC, e1, e2, eA, aNil, aCons, eTup, eLst, eCall, lCall, listR, eChain, tV, tAndD, tOrD, tNotD, eAnd, eOr, eNot, eIf, eL, lDisp, lList, lRep, oNone, oSome, eSl, iSeq, iRng1, iRng2, iZipD, iEnumD, iRevD, lListRange, lLc, eSorted, eSortSet, eLenSet, eBor, tBor, tYesD, noE, toB, dCmp, dSub, dNeg, dInt, dLen, dIs, dIsNot, List.map_cons, List.map_nil, List.length_cons, List.length_nil, Nat.reduceAdd, Nat.reduceSub, Nat.reduceLeDiff, List.replicate, List.cons_append, List.nil_append, List.append_nil, List.getElem?_cons_zero, List.getElem?_cons_succ, List.set_cons_zero, List.set_cons_succ, if_true, if_false, reduceIte, Bool.not_true, Bool.not_false, Bool.false_eq_true, reduceCtorEq, isi_tuple t ht.1]
  cases t
  case tuple xs =>
    obtain ⟨hty, hs⟩ := ht.2 xs rfl
    match xs, hty, hs with
    | [], _, _ => simp only [dIx_pick, dMod, dDiv, dList, dTuple, dRev, dSl, Int.reduceLT, Int.reduceLE, Int.reduceEq, Int.reduceSub, Int.reduceAdd, and_self, true_and, and_true, and_false, false_and, Int.cast_ofNat_Int, decide_true, decide_false, Bool.true_and, Bool.false_and, Bool.and_true, Bool.and_false, dIx_t0, dIx_t1, dIx_l0, dIx_l1, toItems, itemsOf, runF, runL, startE, endF, endL, R.bind_ok, R.bind_exc, R.bind_stuck, gSeq, gIf, gSet, gOwn, gRet, gRetL, gRetO, gDrop, gTgt, gT, gsC, gsN, gN, gFor, gApp, gExt, gFrz, gNil, gExc, eVar, eC, e1, e2, eA, aNil, aCons, eTup, eLst, eCall, lCall, listR, eChain, tV, tAndD, tOrD, tNotD, eAnd, eOr, eNot, eIf, eL, lDisp, lList, lRep, oNone, oSome, eSl, iSeq, iRng1, iRng2, iZipD, iEnumD, iRevD, lListRange, lLc, eSorted, eSortSet, eLenSet, eBor, tBor, tYesD, noE, toB, dCmp, dSub, dNeg, dInt, dLen, dIs, dIsNot, List.map_cons, List.map_nil, List.length_cons, List.length_nil, Nat.reduceAdd, Nat.reduceSub, Nat.reduceLeDiff, List.replicate, List.cons_append, List.nil_append, List.append_nil, List.getElem?_cons_zero, List.getElem?_cons_succ, List.set_cons_zero, List.set_cons_succ, if_true, if_false, reduceIte, Bool.not_true, Bool.not_false, Bool.false_eq_true, reduceCtorEq, topB]
    | [y], _, _ => simp only [dIx_pick, dMod, dDiv, dList, dTuple, dRev, dSl, Int.reduceLT, Int.reduceLE, Int.reduceEq, Int.reduceSub, Int.reduceAdd, and_self, true_and, and_true, and_false, false_and, Int.cast_ofNat_Int, decide_true, decide_false, Bool.true_and, Bool.false_and, Bool.and_true, Bool.and_false, dIx_t0, dIx_t1, dIx_l0, dIx_l1, toItems, itemsOf, runF, runL, startE, endF, endL, R.bind_ok, R.bind_exc, R.bind_stuck, gSeq, gIf, gSet, gOwn, gRet, gRetL, gRetO, gDrop, gTgt, gT, gsC, gsN, gN, gFor, gApp, gExt, gFrz, gNil, gExc, eVar, eC, e1, e2, eA, aNil, aCons, eTup, eLst, eCall, lCall, listR, eChain, tV, tAndD, tOrD, tNotD, eAnd, eOr, eNot, eIf, eL, lDisp, lList, lRep, oNone, oSome, eSl, iSeq, iRng1, iRng2, iZipD, iEnumD, iRevD, lListRange, lLc, eSorted, eSortSet, eLenSet, eBor, tBor, tYesD, noE, toB, dCmp, dSub, dNeg, dInt, dLen, dIs, dIsNot, List.map_cons, List.map_nil, List.length_cons, List.length_nil, Nat.reduceAdd, Nat.reduceSub, Nat.reduceLeDiff, List.replicate, List.cons_append, List.nil_append, List.append_nil, List.getElem?_cons_zero, List.getElem?_cons_succ, List.set_cons_zero, List.set_cons_succ, if_true, if_false, reduceIte, Bool.not_true, Bool.not_false, Bool.false_eq_true, reduceCtorEq, topB]
    | y :: x :: rest, hty, hs =>
      have l2 : ¬ (((rest.length + 1 + 1 : Nat) : Int) < 2) := by omega
      simp only [dIx_t0, dIx_t1, dIx_l0, dIx_l1, toItems, itemsOf, runF, runL, startE, endF, endL, R.bind_ok, R.bind_exc, R.bind_stuck, gSeq, gIf, gSet, gOwn, gRet, gRetL, gRetO, gDrop, gTgt, gT, gsC, gsN, gN, gFor, gApp, gExt, gFrz, gNil, gExc, eVar, eC, e1, e2, eA, aNil, aCons, eTup, eLst, eCall, lCall, listR, eChain, tV, tAndD, tOrD, tNotD, eAnd, eOr, eNot, eIf, eL, lDisp, lList, lRep, oNone, oSome, eSl, iSeq, iRng1, iRng2, iZipD, iEnumD, iRevD, lListRange, lLc, eSorted, eSortSet, eLenSet, eBor, tBor, tYesD, noE, toB, dCmp, dSub, dNeg, dInt, dLen, dIs, dIsNot, List.map_cons, List.map_nil, List.length_cons, List.length_nil, Nat.reduceAdd, Nat.reduceSub, Nat.reduceLeDiff, List.replicate, List.cons_append, List.nil_append, List.append_nil, List.getElem?_cons_zero, List.getElem?_cons_succ, List.set_cons_zero, List.set_cons_succ, if_true, if_false, reduceIte, Bool.not_true, Bool.not_false, Bool.false_eq_true, reduceCtorEq, decide_eq_false l2, isi_str y (hty y (by simp))]
      cases y
      case str s =>
        obtain ⟨os, hx, hps⟩ := hs s x rest rfl
        simp only [dIx_t0, dIx_t1, dIx_l0, dIx_l1, toItems, itemsOf, runF, runL, startE, endF, endL, R.bind_ok, R.bind_exc, R.bind_stuck, gSeq, gIf, gSet, gOwn, gRet, gRetL, gRetO, gDrop, gTgt, gT, gsC, gsN, gN, gFor, gApp, gExt, gFrz, gNil, gExc, eVar, eC, e1, e2, eA, aNil, aCons, eTup, eLst, eCall, lCall, listR, eChain, tV, tAndD, tOrD, tNotD, eAnd, eOr, eNot, eIf, eL, lDisp, lList, lRep, oNone, oSome, eSl, iSeq, iRng1, iRng2, iZipD, iEnumD, iRevD, lListRange, lLc, eSorted, eSortSet, eLenSet, eBor, tBor, tYesD, noE, toB, dCmp, dSub, dNeg, dInt, dLen, dIs, dIsNot, List.map_cons, List.map_nil, List.length_cons, List.length_nil, Nat.reduceAdd, Nat.reduceSub, Nat.reduceLeDiff, List.replicate, List.cons_append, List.nil_append, List.append_nil, List.getElem?_cons_zero, List.getElem?_cons_succ, List.set_cons_zero, List.set_cons_succ, if_true, if_false, reduceIte, Bool.not_true, Bool.not_false, Bool.false_eq_true, reduceCtorEq, dEq_str os okTold]
        by_cases h1 : s = sTold
        · subst h1
          simp only [dIx_t0, dIx_t1, dIx_l0, dIx_l1, toItems, itemsOf, runF, runL, startE, endF, endL, R.bind_ok, R.bind_exc, R.bind_stuck, gSeq, gIf, gSet, gOwn, gRet, gRetL, gRetO, gDrop, gTgt, gT, gsC, gsN, gN, gFor, gApp, gExt, gFrz, gNil, gExc, eVar, eC, e1, e2, eA, aNil, aCons, eTup, eLst, eCall, lCall, listR, eChain, tV, tAndD, tOrD, tNotD, eAnd, eOr, eNot, eIf, eL, lDisp, lList, lRep, oNone, oSome, eSl, iSeq, iRng1, iRng2, iZipD, iEnumD, iRevD, lListRange, lLc, eSorted, eSortSet, eLenSet, eBor, tBor, tYesD, noE, toB, dCmp, dSub, dNeg, dInt, dLen, dIs, dIsNot, List.map_cons, List.map_nil, List.length_cons, List.length_nil, Nat.reduceAdd, Nat.reduceSub, Nat.reduceLeDiff, List.replicate, List.cons_append, List.nil_append, List.append_nil, List.getElem?_cons_zero, List.getElem?_cons_succ, List.set_cons_zero, List.set_cons_succ, if_true, if_false, reduceIte, Bool.not_true, Bool.not_false, Bool.false_eq_true, reduceCtorEq, decide_true, dEq_int, List.length_map, topB]
          cases rest with
          | nil =>
            have e : decide ((((0 : Nat) + 1 + 1 : Nat) : Int) = 2) = true := by decide
            simp only [dIx_t0, dIx_t1, dIx_l0, dIx_l1, toItems, itemsOf, runF, runL, startE, endF, endL, R.bind_ok, R.bind_exc, R.bind_stuck, gSeq, gIf, gSet, gOwn, gRet, gRetL, gRetO, gDrop, gTgt, gT, gsC, gsN, gN, gFor, gApp, gExt, gFrz, gNil, gExc, eVar, eC, e1, e2, eA, aNil, aCons, eTup, eLst, eCall, lCall, listR, eChain, tV, tAndD, tOrD, tNotD, eAnd, eOr, eNot, eIf, eL, lDisp, lList, lRep, oNone, oSome, eSl, iSeq, iRng1, iRng2, iZipD, iEnumD, iRevD, lListRange, lLc, eSorted, eSortSet, eLenSet, eBor, tBor, tYesD, noE, toB, dCmp, dSub, dNeg, dInt, dLen, dIs, dIsNot, List.map_cons, List.map_nil, List.length_cons, List.length_nil, Nat.reduceAdd, Nat.reduceSub, Nat.reduceLeDiff, List.replicate, List.cons_append, List.nil_append, List.append_nil, List.getElem?_cons_zero, List.getElem?_cons_succ, List.set_cons_zero, List.set_cons_succ, if_true, if_false, reduceIte, Bool.not_true, Bool.not_false, Bool.false_eq_true, reduceCtorEq, e]
            match cs, hc with
            | [], _ => simp only [dIx_pick, dMod, dDiv, dList, dTuple, dRev, dSl, Int.reduceLT, Int.reduceLE, Int.reduceEq, Int.reduceSub, Int.reduceAdd, and_self, true_and, and_true, and_false, false_and, Int.cast_ofNat_Int, decide_true, decide_false, Bool.true_and, Bool.false_and, Bool.and_true, Bool.and_false, dIx_t0, dIx_t1, dIx_l0, dIx_l1, toItems, itemsOf, runF, runL, startE, endF, endL, R.bind_ok, R.bind_exc, R.bind_stuck, gSeq, gIf, gSet, gOwn, gRet, gRetL, gRetO, gDrop, gTgt, gT, gsC, gsN, gN, gFor, gApp, gExt, gFrz, gNil, gExc, eVar, eC, e1, e2, eA, aNil, aCons, eTup, eLst, eCall, lCall, listR, eChain, tV, tAndD, tOrD, tNotD, eAnd, eOr, eNot, eIf, eL, lDisp, lList, lRep, oNone, oSome, eSl, iSeq, iRng1, iRng2, iZipD, iEnumD, iRevD, lListRange, lLc, eSorted, eSortSet, eLenSet, eBor, tBor, tYesD, noE, toB, dCmp, dSub, dNeg, dInt, dLen, dIs, dIsNot, List.map_cons, List.map_nil, List.length_cons, List.length_nil, Nat.reduceAdd, Nat.reduceSub, Nat.reduceLeDiff, List.replicate, List.cons_append, List.nil_append, List.append_nil, List.getElem?_cons_zero, List.getElem?_cons_succ, List.set_cons_zero, List.set_cons_succ, if_true, if_false, reduceIte, Bool.not_true, Bool.not_false, Bool.false_eq_true, reduceCtorEq, toldB]
            | [c], hc => simp only [dIx_pick, dMod, dDiv, dList, dTuple, dRev, dSl, Int.reduceLT, Int.reduceLE, Int.reduceEq, Int.reduceSub, Int.reduceAdd, and_self, true_and, and_true, and_false, false_and, Int.cast_ofNat_Int, decide_true, decide_false, Bool.true_and, Bool.false_and, Bool.and_true, Bool.and_false, dIx_t0, dIx_t1, dIx_l0, dIx_l1, toItems, itemsOf, runF, runL, startE, endF, endL, R.bind_ok, R.bind_exc, R.bind_stuck, gSeq, gIf, gSet, gOwn, gRet, gRetL, gRetO, gDrop, gTgt, gT, gsC, gsN, gN, gFor, gApp, gExt, gFrz, gNil, gExc, eVar, eC, e1, e2, eA, aNil, aCons, eTup, eLst, eCall, lCall, listR, eChain, tV, tAndD, tOrD, tNotD, eAnd, eOr, eNot, eIf, eL, lDisp, lList, lRep, oNone, oSome, eSl, iSeq, iRng1, iRng2, iZipD, iEnumD, iRevD, lListRange, lLc, eSorted, eSortSet, eLenSet, eBor, tBor, tYesD, noE, toB, dCmp, dSub, dNeg, dInt, dLen, dIs, dIsNot, List.map_cons, List.map_nil, List.length_cons, List.length_nil, Nat.reduceAdd, Nat.reduceSub, Nat.reduceLeDiff, List.replicate, List.cons_append, List.nil_append, List.append_nil, List.getElem?_cons_zero, List.getElem?_cons_succ, List.set_cons_zero, List.set_cons_succ, if_true, if_false, reduceIte, Bool.not_true, Bool.not_false, Bool.false_eq_true, reduceCtorEq, toldB, F_is_alike_eq c x hx.flat]
            | c :: c2 :: r, _ =>
              have e : ¬ (((r.length + 1 + 1 : Nat) : Int) = 1) := by omega
              simp only [dIx_t0, dIx_t1, dIx_l0, dIx_l1, toItems, itemsOf, runF, runL, startE, endF, endL, R.bind_ok, R.bind_exc, R.bind_stuck, gSeq, gIf, gSet, gOwn, gRet, gRetL, gRetO, gDrop, gTgt, gT, gsC, gsN, gN, gFor, gApp, gExt, gFrz, gNil, gExc, eVar, eC, e1, e2, eA, aNil, aCons, eTup, eLst, eCall, lCall, listR, eChain, tV, tAndD, tOrD, tNotD, eAnd, eOr, eNot, eIf, eL, lDisp, lList, lRep, oNone, oSome, eSl, iSeq, iRng1, iRng2, iZipD, iEnumD, iRevD, lListRange, lLc, eSorted, eSortSet, eLenSet, eBor, tBor, tYesD, noE, toB, dCmp, dSub, dNeg, dInt, dLen, dIs, dIsNot, List.map_cons, List.map_nil, List.length_cons, List.length_nil, Nat.reduceAdd, Nat.reduceSub, Nat.reduceLeDiff, List.replicate, List.cons_append, List.nil_append, List.append_nil, List.getElem?_cons_zero, List.getElem?_cons_succ, List.set_cons_zero, List.set_cons_succ, if_true, if_false, reduceIte, Bool.not_true, Bool.not_false, Bool.false_eq_true, reduceCtorEq, decide_eq_false e, toldB]
          | cons z r =>
            have e : ¬ (((r.length + 1 + 1 + 1 : Nat) : Int) = 2) := by omega
            simp only [dIx_t0, dIx_t1, dIx_l0, dIx_l1, toItems, itemsOf, runF, runL, startE, endF, endL, R.bind_ok, R.bind_exc, R.bind_stuck, gSeq, gIf, gSet, gOwn, gRet, gRetL, gRetO, gDrop, gTgt, gT, gsC, gsN, gN, gFor, gApp, gExt, gFrz, gNil, gExc, eVar, eC, e1, e2, eA, aNil, aCons, eTup, eLst, eCall, lCall, listR, eChain, tV, tAndD, tOrD, tNotD, eAnd, eOr, eNot, eIf, eL, lDisp, lList, lRep, oNone, oSome, eSl, iSeq, iRng1, iRng2, iZipD, iEnumD, iRevD, lListRange, lLc, eSorted, eSortSet, eLenSet, eBor, tBor, tYesD, noE, toB, dCmp, dSub, dNeg, dInt, dLen, dIs, dIsNot, List.map_cons, List.map_nil, List.length_cons, List.length_nil, Nat.reduceAdd, Nat.reduceSub, Nat.reduceLeDiff, List.replicate, List.cons_append, List.nil_append, List.append_nil, List.getElem?_cons_zero, List.getElem?_cons_succ, List.set_cons_zero, List.set_cons_succ, if_true, if_false, reduceIte, Bool.not_true, Bool.not_false, Bool.false_eq_true, reduceCtorEq, decide_eq_false e, toldB]
        · simp only [dIx_t0, dIx_t1, dIx_l0, dIx_l1, toItems, itemsOf, runF, runL, startE, endF, endL, R.bind_ok, R.bind_exc, R.bind_stuck, gSeq, gIf, gSet, gOwn, gRet, gRetL, gRetO, gDrop, gTgt, gT, gsC, gsN, gN, gFor, gApp, gExt, gFrz, gNil, gExc, eVar, eC, e1, e2, eA, aNil, aCons, eTup, eLst, eCall, lCall, listR, eChain, tV, tAndD, tOrD, tNotD, eAnd, eOr, eNot, eIf, eL, lDisp, lList, lRep, oNone, oSome, eSl, iSeq, iRng1, iRng2, iZipD, iEnumD, iRevD, lListRange, lLc, eSorted, eSortSet, eLenSet, eBor, tBor, tYesD, noE, toB, dCmp, dSub, dNeg, dInt, dLen, dIs, dIsNot, List.map_cons, List.map_nil, List.length_cons, List.length_nil, Nat.reduceAdd, Nat.reduceSub, Nat.reduceLeDiff, List.replicate, List.cons_append, List.nil_append, List.append_nil, List.getElem?_cons_zero, List.getElem?_cons_succ, List.set_cons_zero, List.set_cons_succ, if_true, if_false, reduceIte, Bool.not_true, Bool.not_false, Bool.false_eq_true, reduceCtorEq, decide_eq_false h1, dNe_str os okWeigh, topB, if_neg h1]
          by_cases h2 : s = sWeigh
          · subst h2
            simp only [dIx_t0, dIx_t1, dIx_l0, dIx_l1, toItems, itemsOf, runF, runL, startE, endF, endL, R.bind_ok, R.bind_exc, R.bind_stuck, gSeq, gIf, gSet, gOwn, gRet, gRetL, gRetO, gDrop, gTgt, gT, gsC, gsN, gN, gFor, gApp, gExt, gFrz, gNil, gExc, eVar, eC, e1, e2, eA, aNil, aCons, eTup, eLst, eCall, lCall, listR, eChain, tV, tAndD, tOrD, tNotD, eAnd, eOr, eNot, eIf, eL, lDisp, lList, lRep, oNone, oSome, eSl, iSeq, iRng1, iRng2, iZipD, iEnumD, iRevD, lListRange, lLc, eSorted, eSortSet, eLenSet, eBor, tBor, tYesD, noE, toB, dCmp, dSub, dNeg, dInt, dLen, dIs, dIsNot, List.map_cons, List.map_nil, List.length_cons, List.length_nil, Nat.reduceAdd, Nat.reduceSub, Nat.reduceLeDiff, List.replicate, List.cons_append, List.nil_append, List.append_nil, List.getElem?_cons_zero, List.getElem?_cons_succ, List.set_cons_zero, List.set_cons_succ, if_true, if_false, reduceIte, Bool.not_true, Bool.not_false, Bool.false_eq_true, reduceCtorEq, decide_true, dNe_int]
            match rest, hps with
            | [], _ =>
              simp only [dIx_pick, dMod, dDiv, dList, dTuple, dRev, dSl, Int.reduceLT, Int.reduceLE, Int.reduceEq, Int.reduceSub, Int.reduceAdd, and_self, true_and, and_true, and_false, false_and, Int.cast_ofNat_Int, decide_true, decide_false, Bool.true_and, Bool.false_and, Bool.and_true, Bool.and_false, dIx_t0, dIx_t1, dIx_l0, dIx_l1, toItems, itemsOf, runF, runL, startE, endF, endL, R.bind_ok, R.bind_exc, R.bind_stuck, gSeq, gIf, gSet, gOwn, gRet, gRetL, gRetO, gDrop, gTgt, gT, gsC, gsN, gN, gFor, gApp, gExt, gFrz, gNil, gExc, eVar, eC, e1, e2, eA, aNil, aCons, eTup, eLst, eCall, lCall, listR, eChain, tV, tAndD, tOrD, tNotD, eAnd, eOr, eNot, eIf, eL, lDisp, lList, lRep, oNone, oSome, eSl, iSeq, iRng1, iRng2, iZipD, iEnumD, iRevD, lListRange, lLc, eSorted, eSortSet, eLenSet, eBor, tBor, tYesD, noE, toB, dCmp, dSub, dNeg, dInt, dLen, dIs, dIsNot, List.map_cons, List.map_nil, List.length_cons, List.length_nil, Nat.reduceAdd, Nat.reduceSub, Nat.reduceLeDiff, List.replicate, List.cons_append, List.nil_append, List.append_nil, List.getElem?_cons_zero, List.getElem?_cons_succ, List.set_cons_zero, List.set_cons_succ, if_true, if_false, reduceIte, Bool.not_true, Bool.not_false, Bool.false_eq_true, reduceCtorEq, weighB]
            | z1 :: z2 :: r, _ =>
              have e : ¬ (((r.length + 1 + 1 + 1 + 1 : Nat) : Int) = 3) := by omega
              simp only [dIx_t0, dIx_t1, dIx_l0, dIx_l1, toItems, itemsOf, runF, runL, startE, endF, endL, R.bind_ok, R.bind_exc, R.bind_stuck, gSeq, gIf, gSet, gOwn, gRet, gRetL, gRetO, gDrop, gTgt, gT, gsC, gsN, gN, gFor, gApp, gExt, gFrz, gNil, gExc, eVar, eC, e1, e2, eA, aNil, aCons, eTup, eLst, eCall, lCall, listR, eChain, tV, tAndD, tOrD, tNotD, eAnd, eOr, eNot, eIf, eL, lDisp, lList, lRep, oNone, oSome, eSl, iSeq, iRng1, iRng2, iZipD, iEnumD, iRevD, lListRange, lLc, eSorted, eSortSet, eLenSet, eBor, tBor, tYesD, noE, toB, dCmp, dSub, dNeg, dInt, dLen, dIs, dIsNot, List.map_cons, List.map_nil, List.length_cons, List.length_nil, Nat.reduceAdd, Nat.reduceSub, Nat.reduceLeDiff, List.replicate, List.cons_append, List.nil_append, List.append_nil, List.getElem?_cons_zero, List.getElem?_cons_succ, List.set_cons_zero, List.set_cons_succ, if_true, if_false, reduceIte, Bool.not_true, Bool.not_false, Bool.false_eq_true, reduceCtorEq, decide_eq_false e, weighB]
            | [z], hps =>
              have e : decide ((((0 : Nat) + 1 + 1 + 1 : Nat) : Int) = 3) = true := by decide
              have hxw : (sh 61 x ∧ ∀ xs, x = .tuple xs → ∀ ys, .tuple ys ∈ xs → ys.length ≤ 100000) ∨ x = .dict [] := .inl ⟨sh_up hx.1 (by decide), fun us e ys h => Nat.le_trans ((hx.2 us e).2 ys h) (by decide)⟩
              simp only [dIx_t0, dIx_t1, dIx_l0, dIx_l1, toItems, itemsOf, runF, runL, startE, endF, endL, R.bind_ok, R.bind_exc, R.bind_stuck, gSeq, gIf, gSet, gOwn, gRet, gRetL, gRetO, gDrop, gTgt, gT, gsC, gsN, gN, gFor, gApp, gExt, gFrz, gNil, gExc, eVar, eC, e1, e2, eA, aNil, aCons, eTup, eLst, eCall, lCall, listR, eChain, tV, tAndD, tOrD, tNotD, eAnd, eOr, eNot, eIf, eL, lDisp, lList, lRep, oNone, oSome, eSl, iSeq, iRng1, iRng2, iZipD, iEnumD, iRevD, lListRange, lLc, eSorted, eSortSet, eLenSet, eBor, tBor, tYesD, noE, toB, dCmp, dSub, dNeg, dInt, dLen, dIs, dIsNot, List.map_cons, List.map_nil, List.length_cons, List.length_nil, Nat.reduceAdd, Nat.reduceSub, Nat.reduceLeDiff, List.replicate, List.cons_append, List.nil_append, List.append_nil, List.getElem?_cons_zero, List.getElem?_cons_succ, List.set_cons_zero, List.set_cons_succ, if_true, if_false, reduceIte, Bool.not_true, Bool.not_false, Bool.false_eq_true, reduceCtorEq, e, F_is_weighing_eq m x hxw]
              have hz := hty z (by simp)
              cases hw : isW m x
              · simp only [dIx_t0, dIx_t1, dIx_l0, dIx_l1, toItems, itemsOf, runF, runL, startE, endF, endL, R.bind_ok, R.bind_exc, R.bind_stuck, gSeq, gIf, gSet, gOwn, gRet, gRetL, gRetO, gDrop, gTgt, gT, gsC, gsN, gN, gFor, gApp, gExt, gFrz, gNil, gExc, eVar, eC, e1, e2, eA, aNil, aCons, eTup, eLst, eCall, lCall, listR, eChain, tV, tAndD, tOrD, tNotD, eAnd, eOr, eNot, eIf, eL, lDisp, lList, lRep, oNone, oSome, eSl, iSeq, iRng1, iRng2, iZipD, iEnumD, iRevD, lListRange, lLc, eSorted, eSortSet, eLenSet, eBor, tBor, tYesD, noE, toB, dCmp, dSub, dNeg, dInt, dLen, dIs, dIsNot, List.map_cons, List.map_nil, List.length_cons, List.length_nil, Nat.reduceAdd, Nat.reduceSub, Nat.reduceLeDiff, List.replicate, List.cons_append, List.nil_append, List.append_nil, List.getElem?_cons_zero, List.getElem?_cons_succ, List.set_cons_zero, List.set_cons_succ, if_true, if_false, reduceIte, Bool.not_true, Bool.not_false, Bool.false_eq_true, reduceCtorEq]
                unfold weighB
                split
                · rw [hw]; rfl
                · rfl
              · simp only [dIx_t0, dIx_t1, dIx_l0, dIx_l1, toItems, itemsOf, runF, runL, startE, endF, endL, R.bind_ok, R.bind_exc, R.bind_stuck, gSeq, gIf, gSet, gOwn, gRet, gRetL, gRetO, gDrop, gTgt, gT, gsC, gsN, gN, gFor, gApp, gExt, gFrz, gNil, gExc, eVar, eC, e1, e2, eA, aNil, aCons, eTup, eLst, eCall, lCall, listR, eChain, tV, tAndD, tOrD, tNotD, eAnd, eOr, eNot, eIf, eL, lDisp, lList, lRep, oNone, oSome, eSl, iSeq, iRng1, iRng2, iZipD, iEnumD, iRevD, lListRange, lLc, eSorted, eSortSet, eLenSet, eBor, tBor, tYesD, noE, toB, dCmp, dSub, dNeg, dInt, dLen, dIs, dIsNot, List.map_cons, List.map_nil, List.length_cons, List.length_nil, Nat.reduceAdd, Nat.reduceSub, Nat.reduceLeDiff, List.replicate, List.cons_append, List.nil_append, List.append_nil, List.getElem?_cons_zero, List.getElem?_cons_succ, List.set_cons_zero, List.set_cons_succ, if_true, if_false, reduceIte, Bool.not_true, Bool.not_false, Bool.false_eq_true, reduceCtorEq, ix2, isi_tuple z hz]
                cases z
                case tuple ps =>
                  obtain ⟨_, hp⟩ := hps ps rfl
                  have hp := hp rfl hw
                  simp only [dIx_t0, dIx_t1, dIx_l0, dIx_l1, toItems, itemsOf, runF, runL, startE, endF, endL, R.bind_ok, R.bind_exc, R.bind_stuck, gSeq, gIf, gSet, gOwn, gRet, gRetL, gRetO, gDrop, gTgt, gT, gsC, gsN, gN, gFor, gApp, gExt, gFrz, gNil, gExc, eVar, eC, e1, e2, eA, aNil, aCons, eTup, eLst, eCall, lCall, listR, eChain, tV, tAndD, tOrD, tNotD, eAnd, eOr, eNot, eIf, eL, lDisp, lList, lRep, oNone, oSome, eSl, iSeq, iRng1, iRng2, iZipD, iEnumD, iRevD, lListRange, lLc, eSorted, eSortSet, eLenSet, eBor, tBor, tYesD, noE, toB, dCmp, dSub, dNeg, dInt, dLen, dIs, dIsNot, List.map_cons, List.map_nil, List.length_cons, List.length_nil, Nat.reduceAdd, Nat.reduceSub, Nat.reduceLeDiff, List.replicate, List.cons_append, List.nil_append, List.append_nil, List.getElem?_cons_zero, List.getElem?_cons_succ, List.set_cons_zero, List.set_cons_succ, if_true, if_false, reduceIte, Bool.not_true, Bool.not_false, Bool.false_eq_true, reduceCtorEq, dNe_int]
                  match ps, hp with
                  | [], _ => simp only [dIx_pick, dMod, dDiv, dList, dTuple, dRev, dSl, Int.reduceLT, Int.reduceLE, Int.reduceEq, Int.reduceSub, Int.reduceAdd, and_self, true_and, and_true, and_false, false_and, Int.cast_ofNat_Int, decide_true, decide_false, Bool.true_and, Bool.false_and, Bool.and_true, Bool.and_false, dIx_t0, dIx_t1, dIx_l0, dIx_l1, toItems, itemsOf, runF, runL, startE, endF, endL, R.bind_ok, R.bind_exc, R.bind_stuck, gSeq, gIf, gSet, gOwn, gRet, gRetL, gRetO, gDrop, gTgt, gT, gsC, gsN, gN, gFor, gApp, gExt, gFrz, gNil, gExc, eVar, eC, e1, e2, eA, aNil, aCons, eTup, eLst, eCall, lCall, listR, eChain, tV, tAndD, tOrD, tNotD, eAnd, eOr, eNot, eIf, eL, lDisp, lList, lRep, oNone, oSome, eSl, iSeq, iRng1, iRng2, iZipD, iEnumD, iRevD, lListRange, lLc, eSorted, eSortSet, eLenSet, eBor, tBor, tYesD, noE, toB, dCmp, dSub, dNeg, dInt, dLen, dIs, dIsNot, List.map_cons, List.map_nil, List.length_cons, List.length_nil, Nat.reduceAdd, Nat.reduceSub, Nat.reduceLeDiff, List.replicate, List.cons_append, List.nil_append, List.append_nil, List.getElem?_cons_zero, List.getElem?_cons_succ, List.set_cons_zero, List.set_cons_succ, if_true, if_false, reduceIte, Bool.not_true, Bool.not_false, Bool.false_eq_true, reduceCtorEq, weighB]
                  | [_], _ => simp only [dIx_pick, dMod, dDiv, dList, dTuple, dRev, dSl, Int.reduceLT, Int.reduceLE, Int.reduceEq, Int.reduceSub, Int.reduceAdd, and_self, true_and, and_true, and_false, false_and, Int.cast_ofNat_Int, decide_true, decide_false, Bool.true_and, Bool.false_and, Bool.and_true, Bool.and_false, dIx_t0, dIx_t1, dIx_l0, dIx_l1, toItems, itemsOf, runF, runL, startE, endF, endL, R.bind_ok, R.bind_exc, R.bind_stuck, gSeq, gIf, gSet, gOwn, gRet, gRetL, gRetO, gDrop, gTgt, gT, gsC, gsN, gN, gFor, gApp, gExt, gFrz, gNil, gExc, eVar, eC, e1, e2, eA, aNil, aCons, eTup, eLst, eCall, lCall, listR, eChain, tV, tAndD, tOrD, tNotD, eAnd, eOr, eNot, eIf, eL, lDisp, lList, lRep, oNone, oSome, eSl, iSeq, iRng1, iRng2, iZipD, iEnumD, iRevD, lListRange, lLc, eSorted, eSortSet, eLenSet, eBor, tBor, tYesD, noE, toB, dCmp, dSub, dNeg, dInt, dLen, dIs, dIsNot, List.map_cons, List.map_nil, List.length_cons, List.length_nil, Nat.reduceAdd, Nat.reduceSub, Nat.reduceLeDiff, List.replicate, List.cons_append, List.nil_append, List.append_nil, List.getElem?_cons_zero, List.getElem?_cons_succ, List.set_cons_zero, List.set_cons_succ, if_true, if_false, reduceIte, Bool.not_true, Bool.not_false, Bool.false_eq_true, reduceCtorEq, weighB]
                  | [_, _], _ => simp only [dIx_pick, dMod, dDiv, dList, dTuple, dRev, dSl, Int.reduceLT, Int.reduceLE, Int.reduceEq, Int.reduceSub, Int.reduceAdd, and_self, true_and, and_true, and_false, false_and, Int.cast_ofNat_Int, decide_true, decide_false, Bool.true_and, Bool.false_and, Bool.and_true, Bool.and_false, dIx_t0, dIx_t1, dIx_l0, dIx_l1, toItems, itemsOf, runF, runL, startE, endF, endL, R.bind_ok, R.bind_exc, R.bind_stuck, gSeq, gIf, gSet, gOwn, gRet, gRetL, gRetO, gDrop, gTgt, gT, gsC, gsN, gN, gFor, gApp, gExt, gFrz, gNil, gExc, eVar, eC, e1, e2, eA, aNil, aCons, eTup, eLst, eCall, lCall, listR, eChain, tV, tAndD, tOrD, tNotD, eAnd, eOr, eNot, eIf, eL, lDisp, lList, lRep, oNone, oSome, eSl, iSeq, iRng1, iRng2, iZipD, iEnumD, iRevD, lListRange, lLc, eSorted, eSortSet, eLenSet, eBor, tBor, tYesD, noE, toB, dCmp, dSub, dNeg, dInt, dLen, dIs, dIsNot, List.map_cons, List.map_nil, List.length_cons, List.length_nil, Nat.reduceAdd, Nat.reduceSub, Nat.reduceLeDiff, List.replicate, List.cons_append, List.nil_append, List.append_nil, List.getElem?_cons_zero, List.getElem?_cons_succ, List.set_cons_zero, List.set_cons_succ, if_true, if_false, reduceIte, Bool.not_true, Bool.not_false, Bool.false_eq_true, reduceCtorEq, weighB]
                  | p0 :: p1 :: p2 :: p3 :: r, _ =>
                    have e : ¬ (((r.length + 1 + 1 + 1 + 1 : Nat) : Int) = 3) := by omega
                    simp only [dIx_t0, dIx_t1, dIx_l0, dIx_l1, toItems, itemsOf, runF, runL, startE, endF, endL, R.bind_ok, R.bind_exc, R.bind_stuck, gSeq, gIf, gSet, gOwn, gRet, gRetL, gRetO, gDrop, gTgt, gT, gsC, gsN, gN, gFor, gApp, gExt, gFrz, gNil, gExc, eVar, eC, e1, e2, eA, aNil, aCons, eTup, eLst, eCall, lCall, listR, eChain, tV, tAndD, tOrD, tNotD, eAnd, eOr, eNot, eIf, eL, lDisp, lList, lRep, oNone, oSome, eSl, iSeq, iRng1, iRng2, iZipD, iEnumD, iRevD, lListRange, lLc, eSorted, eSortSet, eLenSet, eBor, tBor, tYesD, noE, toB, dCmp, dSub, dNeg, dInt, dLen, dIs, dIsNot, List.map_cons, List.map_nil, List.length_cons, List.length_nil, Nat.reduceAdd, Nat.reduceSub, Nat.reduceLeDiff, List.replicate, List.cons_append, List.nil_append, List.append_nil, List.getElem?_cons_zero, List.getElem?_cons_succ, List.set_cons_zero, List.set_cons_succ, if_true, if_false, reduceIte, Bool.not_true, Bool.not_false, Bool.false_eq_true, reduceCtorEq, decide_eq_false e, weighB]
                  | [p0, p1, p2], hp =>
                    obtain ⟨w, rfl, _⟩ := isW_enc hw
                    obtain ⟨n0, rfl, c0⟩ := hg p0 (hp p0 (by simp))
                    obtain ⟨n1, z1, c1⟩ := hg p1 (hp p1 (by simp))
                    obtain ⟨n2, z2, c2⟩ := hg p2 (hp p2 (by simp))
                    cases Nat.succ.inj z1
                    cases Nat.succ.inj z2
                    simp only [dIx_pick, dMod, dDiv, dList, dTuple, dRev, dSl, Int.reduceLT, Int.reduceLE, Int.reduceEq, Int.reduceSub, Int.reduceAdd, and_self, true_and, and_true, and_false, false_and, Int.cast_ofNat_Int, decide_true, decide_false, Bool.true_and, Bool.false_and, Bool.and_true, Bool.and_false, dIx_t0, dIx_t1, dIx_l0, dIx_l1, toItems, itemsOf, runF, runL, startE, endF, endL, R.bind_ok, R.bind_exc, R.bind_stuck, gSeq, gIf, gSet, gOwn, gRet, gRetL, gRetO, gDrop, gTgt, gT, gsC, gsN, gN, gFor, gApp, gExt, gFrz, gNil, gExc, eVar, eC, e1, e2, eA, aNil, aCons, eTup, eLst, eCall, lCall, listR, eChain, tV, tAndD, tOrD, tNotD, eAnd, eOr, eNot, eIf, eL, lDisp, lList, lRep, oNone, oSome, eSl, iSeq, iRng1, iRng2, iZipD, iEnumD, iRevD, lListRange, lLc, eSorted, eSortSet, eLenSet, eBor, tBor, tYesD, noE, toB, dCmp, dSub, dNeg, dInt, dLen, dIs, dIsNot, List.map_cons, List.map_nil, List.length_cons, List.length_nil, Nat.reduceAdd, Nat.reduceSub, Nat.reduceLeDiff, List.replicate, List.cons_append, List.nil_append, List.append_nil, List.getElem?_cons_zero, List.getElem?_cons_succ, List.set_cons_zero, List.set_cons_succ, if_true, if_false, reduceIte, Bool.not_true, Bool.not_false, Bool.false_eq_true, reduceCtorEq, ix2, F_are_parts_eq (isW_ok hw hx) hc hl p0 p1 p2 c0 c1 c2, weighB, hw, decW_enc]
                all_goals simp only [dIx_t0, dIx_t1, dIx_l0, dIx_l1, toItems, itemsOf, runF, runL, startE, endF, endL, R.bind_ok, R.bind_exc, R.bind_stuck, gSeq, gIf, gSet, gOwn, gRet, gRetL, gRetO, gDrop, gTgt, gT, gsC, gsN, gN, gFor, gApp, gExt, gFrz, gNil, gExc, eVar, eC, e1, e2, eA, aNil, aCons, eTup, eLst, eCall, lCall, listR, eChain, tV, tAndD, tOrD, tNotD, eAnd, eOr, eNot, eIf, eL, lDisp, lList, lRep, oNone, oSome, eSl, iSeq, iRng1, iRng2, iZipD, iEnumD, iRevD, lListRange, lLc, eSorted, eSortSet, eLenSet, eBor, tBor, tYesD, noE, toB, dCmp, dSub, dNeg, dInt, dLen, dIs, dIsNot, List.map_cons, List.map_nil, List.length_cons, List.length_nil, Nat.reduceAdd, Nat.reduceSub, Nat.reduceLeDiff, List.replicate, List.cons_append, List.nil_append, List.append_nil, List.getElem?_cons_zero, List.getElem?_cons_succ, List.set_cons_zero, List.set_cons_succ, if_true, if_false, reduceIte, Bool.not_true, Bool.not_false, Bool.false_eq_true, reduceCtorEq, weighB]
          · simp only [dIx_t0, dIx_t1, dIx_l0, dIx_l1, toItems, itemsOf, runF, runL, startE, endF, endL, R.bind_ok, R.bind_exc, R.bind_stuck, gSeq, gIf, gSet, gOwn, gRet, gRetL, gRetO, gDrop, gTgt, gT, gsC, gsN, gN, gFor, gApp, gExt, gFrz, gNil, gExc, eVar, eC, e1, e2, eA, aNil, aCons, eTup, eLst, eCall, lCall, listR, eChain, tV, tAndD, tOrD, tNotD, eAnd, eOr, eNot, eIf, eL, lDisp, lList, lRep, oNone, oSome, eSl, iSeq, iRng1, iRng2, iZipD, iEnumD, iRevD, lListRange, lLc, eSorted, eSortSet, eLenSet, eBor, tBor, tYesD, noE, toB, dCmp, dSub, dNeg, dInt, dLen, dIs, dIsNot, List.map_cons, List.map_nil, List.length_cons, List.length_nil, Nat.reduceAdd, Nat.reduceSub, Nat.reduceLeDiff, List.replicate, List.cons_append, List.nil_append, List.append_nil, List.getElem?_cons_zero, List.getElem?_cons_succ, List.set_cons_zero, List.set_cons_succ, if_true, if_false, reduceIte, Bool.not_true, Bool.not_false, Bool.false_eq_true, reduceCtorEq, decide_eq_false h2, if_neg h2]
      all_goals simp only [dIx_t0, dIx_t1, dIx_l0, dIx_l1, toItems, itemsOf, runF, runL, startE, endF, endL, R.bind_ok, R.bind_exc, R.bind_stuck, gSeq, gIf, gSet, gOwn, gRet, gRetL, gRetO, gDrop, gTgt, gT, gsC, gsN, gN, gFor, gApp, gExt, gFrz, gNil, gExc, eVar, eC, e1, e2, eA, aNil, aCons, eTup, eLst, eCall, lCall, listR, eChain, tV, tAndD, tOrD, tNotD, eAnd, eOr, eNot, eIf, eL, lDisp, lList, lRep, oNone, oSome, eSl, iSeq, iRng1, iRng2, iZipD, iEnumD, iRevD, lListRange, lLc, eSorted, eSortSet, eLenSet, eBor, tBor, tYesD, noE, toB, dCmp, dSub, dNeg, dInt, dLen, dIs, dIsNot, List.map_cons, List.map_nil, List.length_cons, List.length_nil, Nat.reduceAdd, Nat.reduceSub, Nat.reduceLeDiff, List.replicate, List.cons_append, List.nil_append, List.append_nil, List.getElem?_cons_zero, List.getElem?_cons_succ, List.set_cons_zero, List.set_cons_succ, if_true, if_false, reduceIte, Bool.not_true, Bool.not_false, Bool.false_eq_true, reduceCtorEq, topB]
  all_goals simp only [dIx_t0, dIx_t1, dIx_l0, dIx_l1, toItems, itemsOf, runF, runL, startE, endF, endL, R.bind_ok, R.bind_exc, R.bind_stuck, gSeq, gIf, gSet, gOwn, gRet, gRetL, gRetO, gDrop, gTgt, gT, gsC, gsN, gN, gFor, gApp, gExt, gFrz, gNil, gExc, eVar, eC, e1, e2, eA, aNil, aCons, eTup, eLst, eCall, lCall, listR, eChain, tV, tAndD, tOrD, tNotD, eAnd, eOr, eNot, eIf, eL, lDisp, lList, lRep, oNone, oSome, eSl, iSeq, iRng1, iRng2, iZipD, iEnumD, iRevD, lListRange, lLc, eSorted, eSortSet, eLenSet, eBor, tBor, tYesD, noE, toB, dCmp, dSub, dNeg, dInt, dLen, dIs, dIsNot, List.map_cons, List.map_nil, List.length_cons, List.length_nil, Nat.reduceAdd, Nat.reduceSub, Nat.reduceLeDiff, List.replicate, List.cons_append, List.nil_append, List.append_nil, List.getElem?_cons_zero, List.getElem?_cons_succ, List.set_cons_zero, List.set_cons_succ, if_true, if_false, reduceIte, Bool.not_true, Bool.not_false, Bool.false_eq_true, reduceCtorEq, topB]
theorem F_is_plan_for_eq {m : Nat} : ∀ (k n : Nat) (t : D), 2 * k + 1 ≤ n → fineP m k t → ∀ (cs : List (List Int)), (∀ c ∈ cs, CaseOk m c) → cs.length ≤ 100 → F_is_plan_for n [.int m, .list (cs.map encC), t] = .ok (.bool (planB m k cs t))
  | 0, n, t, hn, ht, cs, hc, hl => by
    obtain ⟨n, rfl⟩ : ∃ n', n = n' + 1 := ⟨n - 1, by omega⟩
    exact top_eq hc hl t ht fun p hp => hp.elim
  | k + 1, n, t, hn, ht, cs, hc, hl => by
    obtain ⟨n, rfl⟩ : ∃ n', n = n' + 1 + 1 := ⟨n - 2, by omega⟩
    exact top_eq hc hl t ht fun p hp => ⟨n, rfl, fun l _ hcl hll => F_is_plan_for_eq k n p (by omega) hp l hcl hll⟩
end W

set_option Elab.async false
set_option linter.all false
set_option maxRecDepth 100000
set_option maxHeartbeats 1000000
namespace W
open PySem PL
/-! ### the law's own look at a plan -/
theorem law_by {m : Nat} {w : Wg} (hw : WgOk m w) {cs : List (List Int)} (hc : ∀ c ∈ cs, CaseOk m c) (hl : cs.length ≤ 100) {Rf : List D → PL.R D} (x2 : D) (k : Int) (s0 s4 s5 : PL.Slot noObj) (rest : List D) :
    c__law_is_plan_1 Rf [s0, .val (.list (cs.map encC)), .val (.tuple (.str sWeigh :: encW w :: rest)), .val (.int k), s4, s5, .no] = .ok ((byW w (k - 1) cs).map encC) := by
  unfold c__law_is_plan_1
  simp only [dIx_t0, dIx_t1, dIx_l0, dIx_l1, toItems, itemsOf, runF, runL, startE, endF, endL, R.bind_ok, R.bind_exc, R.bind_stuck, gSeq, gIf, gSet, gOwn, gRet, gRetL, gRetO, gDrop, gTgt, gT, gsC, gsN, gN, gFor, gApp, gExt, gFrz, gNil, gExc, eVar, eC, e1, e2, eA, aNil, aCons, eTup, eLst, eCall, lCall, listR, eChain, tV, tAndD, tOrD, tNotD, eAnd, eOr, eNot, eIf, eL, lDisp, lList, lRep, oNone, oSome, eSl, iSeq, iRng1, iRng2, iZipD, iEnumD, iRevD, lListRange, lLc, eSorted, eSortSet, eLenSet, eBor, tBor, tYesD, noE, toB, dCmp, dSub, dNeg, dInt, dLen, dIs, dIsNot, List.map_cons, List.map_nil, List.length_cons, List.length_nil, Nat.reduceAdd, Nat.reduceSub, Nat.reduceLeDiff, List.replicate, List.cons_append, List.nil_append, List.append_nil, List.getElem?_cons_zero, List.getElem?_cons_succ, List.set_cons_zero, List.set_cons_succ, if_true, if_false, reduceIte, Bool.not_true, Bool.not_false, Bool.false_eq_true, reduceCtorEq]
  rw [if_pos ⟨by rw [List.length_map]; omega, rfl⟩]
  refine noE_of ?_
  refine each_enc fun c h => ?_
  unfold lcStep
  simp only [dIx_t0, dIx_t1, dIx_l0, dIx_l1, toItems, itemsOf, runF, runL, startE, endF, endL, R.bind_ok, R.bind_exc, R.bind_stuck, gSeq, gIf, gSet, gOwn, gRet, gRetL, gRetO, gDrop, gTgt, gT, gsC, gsN, gN, gFor, gApp, gExt, gFrz, gNil, gExc, eVar, eC, e1, e2, eA, aNil, aCons, eTup, eLst, eCall, lCall, listR, eChain, tV, tAndD, tOrD, tNotD, eAnd, eOr, eNot, eIf, eL, lDisp, lList, lRep, oNone, oSome, eSl, iSeq, iRng1, iRng2, iZipD, iEnumD, iRevD, lListRange, lLc, eSorted, eSortSet, eLenSet, eBor, tBor, tYesD, noE, toB, dCmp, dSub, dNeg, dInt, dLen, dIs, dIsNot, List.map_cons, List.map_nil, List.length_cons, List.length_nil, Nat.reduceAdd, Nat.reduceSub, Nat.reduceLeDiff, List.replicate, List.cons_append, List.nil_append, List.append_nil, List.getElem?_cons_zero, List.getElem?_cons_succ, List.set_cons_zero, List.set_cons_succ, if_true, if_false, reduceIte, Bool.not_true, Bool.not_false, Bool.false_eq_true, reduceCtorEq, wipeE, lcame_eq hw (hc c h), dEq_int]
  by_cases h : cm w c = k - 1
  · simp only [dIx_t0, dIx_t1, dIx_l0, dIx_l1, toItems, itemsOf, runF, runL, startE, endF, endL, R.bind_ok, R.bind_exc, R.bind_stuck, gSeq, gIf, gSet, gOwn, gRet, gRetL, gRetO, gDrop, gTgt, gT, gsC, gsN, gN, gFor, gApp, gExt, gFrz, gNil, gExc, eVar, eC, e1, e2, eA, aNil, aCons, eTup, eLst, eCall, lCall, listR, eChain, tV, tAndD, tOrD, tNotD, eAnd, eOr, eNot, eIf, eL, lDisp, lList, lRep, oNone, oSome, eSl, iSeq, iRng1, iRng2, iZipD, iEnumD, iRevD, lListRange, lLc, eSorted, eSortSet, eLenSet, eBor, tBor, tYesD, noE, toB, dCmp, dSub, dNeg, dInt, dLen, dIs, dIsNot, List.map_cons, List.map_nil, List.length_cons, List.length_nil, Nat.reduceAdd, Nat.reduceSub, Nat.reduceLeDiff, List.replicate, List.cons_append, List.nil_append, List.append_nil, List.getElem?_cons_zero, List.getElem?_cons_succ, List.set_cons_zero, List.set_cons_succ, if_true, if_false, reduceIte, Bool.not_true, Bool.not_false, Bool.false_eq_true, reduceCtorEq, decide_eq_true h]
  · simp only [dIx_t0, dIx_t1, dIx_l0, dIx_l1, toItems, itemsOf, runF, runL, startE, endF, endL, R.bind_ok, R.bind_exc, R.bind_stuck, gSeq, gIf, gSet, gOwn, gRet, gRetL, gRetO, gDrop, gTgt, gT, gsC, gsN, gN, gFor, gApp, gExt, gFrz, gNil, gExc, eVar, eC, e1, e2, eA, aNil, aCons, eTup, eLst, eCall, lCall, listR, eChain, tV, tAndD, tOrD, tNotD, eAnd, eOr, eNot, eIf, eL, lDisp, lList, lRep, oNone, oSome, eSl, iSeq, iRng1, iRng2, iZipD, iEnumD, iRevD, lListRange, lLc, eSorted, eSortSet, eLenSet, eBor, tBor, tYesD, noE, toB, dCmp, dSub, dNeg, dInt, dLen, dIs, dIsNot, List.map_cons, List.map_nil, List.length_cons, List.length_nil, Nat.reduceAdd, Nat.reduceSub, Nat.reduceLeDiff, List.replicate, List.cons_append, List.nil_append, List.append_nil, List.getElem?_cons_zero, List.getElem?_cons_succ, List.set_cons_zero, List.set_cons_succ, if_true, if_false, reduceIte, Bool.not_true, Bool.not_false, Bool.false_eq_true, reduceCtorEq, decide_eq_false h]
theorem dNe_nil {cs : List (List Int)} : dNe (.list (cs.map encC)) (.list []) = .ok (.bool (!cs.isEmpty)) := by
  rw [dNe_sh (n := 2) (sh_list (n := 1) fun x hx => by obtain ⟨c, _, rfl⟩ := List.mem_map.mp hx; exact encC_sh c) (sh_list (n := 1) (xs := []) (by simp))]
  cases cs <;> simp [PyData.eqv, PyData.eqvAll]
theorem law_step {m : Nat} {w : Wg} (hw : WgOk m w) {cs : List (List Int)} (hc : ∀ c ∈ cs, CaseOk m c) (hl : cs.length ≤ 100) {Rf : List D → PL.R D} {f : List (List Int) → D → Bool} (k : Int) (p p0 p1 p2 : D) (s4 s5 : PL.Slot noObj) (hk : dIx (.tuple [p0, p1, p2]) (.int k) = .ok p) (hR : Calls m Rf f p) :
    ∃ s4' s5', g__law_is_plan_L1 Rf [.val (.int m), .val (.list (cs.map encC)), .val (.tuple [.str sWeigh, encW w, .tuple [p0, p1, p2]]), .val (.int k), s4, s5, .no] =
      if partB f cs w (k - 1) p = true then .ok (.nx, [.val (.int m), .val (.list (cs.map encC)), .val (.tuple [.str sWeigh, encW w, .tuple [p0, p1, p2]]), .val (.int k), s4', s5', .no])
      else .ok (.rt (.bool false), [.val (.int m), .val (.list (cs.map encC)), .val (.tuple [.str sWeigh, encW w, .tuple [p0, p1, p2]]), .val (.int k), s4', s5', .no]) := by
  refine ⟨.val (.list ((byW w (k - 1) cs).map encC)), .val p, ?_⟩
  unfold g__law_is_plan_L1
  simp only [dIx_t0, dIx_t1, dIx_l0, dIx_l1, toItems, itemsOf, runF, runL, startE, endF, endL, R.bind_ok, R.bind_exc, R.bind_stuck, gSeq, gIf, gSet, gOwn, gRet, gRetL, gRetO, gDrop, gTgt, gT, gsC, gsN, gN, gFor, gApp, gExt, gFrz, gNil, gExc, eVar, eC, e1, e2, eA, aNil, aCons, eTup, eLst, eCall, lCall, listR, eChain, tV, tAndD, tOrD, tNotD, eAnd, eOr, eNot, eIf, eL, lDisp, lList, lRep, oNone, oSome, eSl, iSeq, iRng1, iRng2, iZipD, iEnumD, iRevD, lListRange, lLc, eSorted, eSortSet, eLenSet, eBor, tBor, tYesD, noE, toB, dCmp, dSub, dNeg, dInt, dLen, dIs, dIsNot, List.map_cons, List.map_nil, List.length_cons, List.length_nil, Nat.reduceAdd, Nat.reduceSub, Nat.reduceLeDiff, List.replicate, List.cons_append, List.nil_append, List.append_nil, List.getElem?_cons_zero, List.getElem?_cons_succ, List.set_cons_zero, List.set_cons_succ, if_true, if_false, reduceIte, Bool.not_true, Bool.not_false, Bool.false_eq_true, reduceCtorEq, law_by hw hc hl .none k, ix2, hk, dEq_nil, dNe_nil]
  have hcb : ∀ c ∈ byW w (k - 1) cs, CaseOk m c := fun c h => hc c (List.mem_filter.mp h).1
  have hlb : (byW w (k - 1) cs).length ≤ 100 := Nat.le_trans (List.length_filter_le _ _) hl
  unfold partB
  cases hb : byW w (k - 1) cs with
  | nil =>
    simp only [dIx_t0, dIx_t1, dIx_l0, dIx_l1, toItems, itemsOf, runF, runL, startE, endF, endL, R.bind_ok, R.bind_exc, R.bind_stuck, gSeq, gIf, gSet, gOwn, gRet, gRetL, gRetO, gDrop, gTgt, gT, gsC, gsN, gN, gFor, gApp, gExt, gFrz, gNil, gExc, eVar, eC, e1, e2, eA, aNil, aCons, eTup, eLst, eCall, lCall, listR, eChain, tV, tAndD, tOrD, tNotD, eAnd, eOr, eNot, eIf, eL, lDisp, lList, lRep, oNone, oSome, eSl, iSeq, iRng1, iRng2, iZipD, iEnumD, iRevD, lListRange, lLc, eSorted, eSortSet, eLenSet, eBor, tBor, tYesD, noE, toB, dCmp, dSub, dNeg, dInt, dLen, dIs, dIsNot, List.map_cons, List.map_nil, List.length_cons, List.length_nil, Nat.reduceAdd, Nat.reduceSub, Nat.reduceLeDiff, List.replicate, List.cons_append, List.nil_append, List.append_nil, List.getElem?_cons_zero, List.getElem?_cons_succ, List.set_cons_zero, List.set_cons_succ, if_true, if_false, reduceIte, Bool.not_true, Bool.not_false, Bool.false_eq_true, reduceCtorEq, List.isEmpty_nil]
    cases p <;> simp only [dIx_t0, dIx_t1, dIx_l0, dIx_l1, toItems, itemsOf, runF, runL, startE, endF, endL, R.bind_ok, R.bind_exc, R.bind_stuck, gSeq, gIf, gSet, gOwn, gRet, gRetL, gRetO, gDrop, gTgt, gT, gsC, gsN, gN, gFor, gApp, gExt, gFrz, gNil, gExc, eVar, eC, e1, e2, eA, aNil, aCons, eTup, eLst, eCall, lCall, listR, eChain, tV, tAndD, tOrD, tNotD, eAnd, eOr, eNot, eIf, eL, lDisp, lList, lRep, oNone, oSome, eSl, iSeq, iRng1, iRng2, iZipD, iEnumD, iRevD, lListRange, lLc, eSorted, eSortSet, eLenSet, eBor, tBor, tYesD, noE, toB, dCmp, dSub, dNeg, dInt, dLen, dIs, dIsNot, List.map_cons, List.map_nil, List.length_cons, List.length_nil, Nat.reduceAdd, Nat.reduceSub, Nat.reduceLeDiff, List.replicate, List.cons_append, List.nil_append, List.append_nil, List.getElem?_cons_zero, List.getElem?_cons_succ, List.set_cons_zero, List.set_cons_succ, if_true, if_false, reduceIte, Bool.not_true, Bool.not_false, Bool.false_eq_true, reduceCtorEq]
  | cons c r =>
    rw [hb] at hcb hlb
    simp only [dIx_t0, dIx_t1, dIx_l0, dIx_l1, toItems, itemsOf, runF, runL, startE, endF, endL, R.bind_ok, R.bind_exc, R.bind_stuck, gSeq, gIf, gSet, gOwn, gRet, gRetL, gRetO, gDrop, gTgt, gT, gsC, gsN, gN, gFor, gApp, gExt, gFrz, gNil, gExc, eVar, eC, e1, e2, eA, aNil, aCons, eTup, eLst, eCall, lCall, listR, eChain, tV, tAndD, tOrD, tNotD, eAnd, eOr, eNot, eIf, eL, lDisp, lList, lRep, oNone, oSome, eSl, iSeq, iRng1, iRng2, iZipD, iEnumD, iRevD, lListRange, lLc, eSorted, eSortSet, eLenSet, eBor, tBor, tYesD, noE, toB, dCmp, dSub, dNeg, dInt, dLen, dIs, dIsNot, List.map_cons, List.map_nil, List.length_cons, List.length_nil, Nat.reduceAdd, Nat.reduceSub, Nat.reduceLeDiff, List.replicate, List.cons_append, List.nil_append, List.append_nil, List.getElem?_cons_zero, List.getElem?_cons_succ, List.set_cons_zero, List.set_cons_succ, if_true, if_false, reduceIte, Bool.not_true, Bool.not_false, Bool.false_eq_true, reduceCtorEq, List.isEmpty_cons]
    have e := hR (c :: r) (by simp) hcb hlb
    rw [List.map_cons] at e
    simp only [dIx_t0, dIx_t1, dIx_l0, dIx_l1, toItems, itemsOf, runF, runL, startE, endF, endL, R.bind_ok, R.bind_exc, R.bind_stuck, gSeq, gIf, gSet, gOwn, gRet, gRetL, gRetO, gDrop, gTgt, gT, gsC, gsN, gN, gFor, gApp, gExt, gFrz, gNil, gExc, eVar, eC, e1, e2, eA, aNil, aCons, eTup, eLst, eCall, lCall, listR, eChain, tV, tAndD, tOrD, tNotD, eAnd, eOr, eNot, eIf, eL, lDisp, lList, lRep, oNone, oSome, eSl, iSeq, iRng1, iRng2, iZipD, iEnumD, iRevD, lListRange, lLc, eSorted, eSortSet, eLenSet, eBor, tBor, tYesD, noE, toB, dCmp, dSub, dNeg, dInt, dLen, dIs, dIsNot, List.map_cons, List.map_nil, List.length_cons, List.length_nil, Nat.reduceAdd, Nat.reduceSub, Nat.reduceLeDiff, List.replicate, List.cons_append, List.nil_append, List.append_nil, List.getElem?_cons_zero, List.getElem?_cons_succ, List.set_cons_zero, List.set_cons_succ, if_true, if_false, reduceIte, Bool.not_true, Bool.not_false, Bool.false_eq_true, reduceCtorEq, e]
    cases f (c :: r) p <;> simp only [dIx_t0, dIx_t1, dIx_l0, dIx_l1, toItems, itemsOf, runF, runL, startE, endF, endL, R.bind_ok, R.bind_exc, R.bind_stuck, gSeq, gIf, gSet, gOwn, gRet, gRetL, gRetO, gDrop, gTgt, gT, gsC, gsN, gN, gFor, gApp, gExt, gFrz, gNil, gExc, eVar, eC, e1, e2, eA, aNil, aCons, eTup, eLst, eCall, lCall, listR, eChain, tV, tAndD, tOrD, tNotD, eAnd, eOr, eNot, eIf, eL, lDisp, lList, lRep, oNone, oSome, eSl, iSeq, iRng1, iRng2, iZipD, iEnumD, iRevD, lListRange, lLc, eSorted, eSortSet, eLenSet, eBor, tBor, tYesD, noE, toB, dCmp, dSub, dNeg, dInt, dLen, dIs, dIsNot, List.map_cons, List.map_nil, List.length_cons, List.length_nil, Nat.reduceAdd, Nat.reduceSub, Nat.reduceLeDiff, List.replicate, List.cons_append, List.nil_append, List.append_nil, List.getElem?_cons_zero, List.getElem?_cons_succ, List.set_cons_zero, List.set_cons_succ, if_true, if_false, reduceIte, Bool.not_true, Bool.not_false, Bool.false_eq_true, reduceCtorEq]
theorem ltop_eq {m : Nat} {cs : List (List Int)} (hc : ∀ c ∈ cs, CaseOk m c) (hl : cs.length ≤ 100) {n : Nat} {f : List (List Int) → D → Bool} {g : D → Prop} (t : D) (ht : fineT m t g) (hg : ∀ p, g p → Calls m (F__law_is_plan n) f p) :
    F__law_is_plan (n + 1) [.int m, .list (cs.map encC), t] = .ok (.bool (topB m cs t f)) := by
  show runF 7 (g__law_is_plan (F__law_is_plan n)) _ = _
  unfold g__law_is_plan
  simp only [dIx_t0, dIx_t1, dIx_l0, dIx_l1, toItems, itemsOf, runF, runL, startE, endF, endL, R.bind_ok, R.bind_exc, R.bind_stuck, gSeq, gIf, gSet, gOwn, gRet, gRetL, gRetO, gDrop, gTgt, gT, gsC, gsN, gN, gFor, gApp, gExt, gFrz, gNil, gExc, eVar, eC, e1, e2, eA, aNil, aCons, eTup, eLst, eCall, lCall, listR, eChain, tV, tAndD, tOrD, tNotD, eAnd, eOr, eNot, eIf, eL, lDisp, lList, lRep, oNone, oSome, eSl, iSeq, iRng1, iRng2, iZipD, iEnumD, iRevD, lListRange, lLc, eSorted, eSortSet, eLenSet, eBor, tBor, tYesD, noE, toB, dCmp, dSub, dNeg, dInt, dLen, dIs, dIsNot, List.map_cons, List.map_nil, List.length_cons, List.length_nil, Nat.reduceAdd, Nat.reduceSub, Nat.reduceLeDiff, List.replicate, List.cons_append, List.nil_append, List.append_nil, List.getElem?_cons_zero, List.getElem?_cons_succ, List.set_cons_zero, List.set_cons_succ, if_true, if_false, reduceIte, Bool.not_true, Bool.not_false, Bool.false_eq_true, reduceCtorEq, isi_tuple t ht.1]
  cases t
  case tuple xs =>
    obtain ⟨hty, hs⟩ := ht.2 xs rfl
    match xs, hty, hs with
    | [], _, _ => simp only [dIx_pick, dMod, dDiv, dList, dTuple, dRev, dSl, Int.reduceLT, Int.reduceLE, Int.reduceEq, Int.reduceSub, Int.reduceAdd, and_self, true_and, and_true, and_false, false_and, Int.cast_ofNat_Int, decide_true, decide_false, Bool.true_and, Bool.false_and, Bool.and_true, Bool.and_false, dIx_t0, dIx_t1, dIx_l0, dIx_l1, toItems, itemsOf, runF, runL, startE, endF, endL, R.bind_ok, R.bind_exc, R.bind_stuck, gSeq, gIf, gSet, gOwn, gRet, gRetL, gRetO, gDrop, gTgt, gT, gsC, gsN, gN, gFor, gApp, gExt, gFrz, gNil, gExc, eVar, eC, e1, e2, eA, aNil, aCons, eTup, eLst, eCall, lCall, listR, eChain, tV, tAndD, tOrD, tNotD, eAnd, eOr, eNot, eIf, eL, lDisp, lList, lRep, oNone, oSome, eSl, iSeq, iRng1, iRng2, iZipD, iEnumD, iRevD, lListRange, lLc, eSorted, eSortSet, eLenSet, eBor, tBor, tYesD, noE, toB, dCmp, dSub, dNeg, dInt, dLen, dIs, dIsNot, List.map_cons, List.map_nil, List.length_cons, List.length_nil, Nat.reduceAdd, Nat.reduceSub, Nat.reduceLeDiff, List.replicate, List.cons_append, List.nil_append, List.append_nil, List.getElem?_cons_zero, List.getElem?_cons_succ, List.set_cons_zero, List.set_cons_succ, if_true, if_false, reduceIte, Bool.not_true, Bool.not_false, Bool.false_eq_true, reduceCtorEq, topB]
    | [y], _, _ => simp only [dIx_pick, dMod, dDiv, dList, dTuple, dRev, dSl, Int.reduceLT, Int.reduceLE, Int.reduceEq, Int.reduceSub, Int.reduceAdd, and_self, true_and, and_true, and_false, false_and, Int.cast_ofNat_Int, decide_true, decide_false, Bool.true_and, Bool.false_and, Bool.and_true, Bool.and_false, dIx_t0, dIx_t1, dIx_l0, dIx_l1, toItems, itemsOf, runF, runL, startE, endF, endL, R.bind_ok, R.bind_exc, R.bind_stuck, gSeq, gIf, gSet, gOwn, gRet, gRetL, gRetO, gDrop, gTgt, gT, gsC, gsN, gN, gFor, gApp, gExt, gFrz, gNil, gExc, eVar, eC, e1, e2, eA, aNil, aCons, eTup, eLst, eCall, lCall, listR, eChain, tV, tAndD, tOrD, tNotD, eAnd, eOr, eNot, eIf, eL, lDisp, lList, lRep, oNone, oSome, eSl, iSeq, iRng1, iRng2, iZipD, iEnumD, iRevD, lListRange, lLc, eSorted, eSortSet, eLenSet, eBor, tBor, tYesD, noE, toB, dCmp, dSub, dNeg, dInt, dLen, dIs, dIsNot, List.map_cons, List.map_nil, List.length_cons, List.length_nil, Nat.reduceAdd, Nat.reduceSub, Nat.reduceLeDiff, List.replicate, List.cons_append, List.nil_append, List.append_nil, List.getElem?_cons_zero, List.getElem?_cons_succ, List.set_cons_zero, List.set_cons_succ, if_true, if_false, reduceIte, Bool.not_true, Bool.not_false, Bool.false_eq_true, reduceCtorEq, topB]
    | y :: x :: rest, hty, hs =>
      have l2 : ¬ (((rest.length + 1 + 1 : Nat) : Int) < 2) := by omega
      simp only [dIx_t0, dIx_t1, dIx_l0, dIx_l1, toItems, itemsOf, runF, runL, startE, endF, endL, R.bind_ok, R.bind_exc, R.bind_stuck, gSeq, gIf, gSet, gOwn, gRet, gRetL, gRetO, gDrop, gTgt, gT, gsC, gsN, gN, gFor, gApp, gExt, gFrz, gNil, gExc, eVar, eC, e1, e2, eA, aNil, aCons, eTup, eLst, eCall, lCall, listR, eChain, tV, tAndD, tOrD, tNotD, eAnd, eOr, eNot, eIf, eL, lDisp, lList, lRep, oNone, oSome, eSl, iSeq, iRng1, iRng2, iZipD, iEnumD, iRevD, lListRange, lLc, eSorted, eSortSet, eLenSet, eBor, tBor, tYesD, noE, toB, dCmp, dSub, dNeg, dInt, dLen, dIs, dIsNot, List.map_cons, List.map_nil, List.length_cons, List.length_nil, Nat.reduceAdd, Nat.reduceSub, Nat.reduceLeDiff, List.replicate, List.cons_append, List.nil_append, List.append_nil, List.getElem?_cons_zero, List.getElem?_cons_succ, List.set_cons_zero, List.set_cons_succ, if_true, if_false, reduceIte, Bool.not_true, Bool.not_false, Bool.false_eq_true, reduceCtorEq, decide_eq_false l2, isi_str y (hty y (by simp))]
      cases y
      case str s =>
        obtain ⟨os, hx, hps⟩ := hs s x rest rfl
        simp only [dIx_t0, dIx_t1, dIx_l0, dIx_l1, toItems, itemsOf, runF, runL, startE, endF, endL, R.bind_ok, R.bind_exc, R.bind_stuck, gSeq, gIf, gSet, gOwn, gRet, gRetL, gRetO, gDrop, gTgt, gT, gsC, gsN, gN, gFor, gApp, gExt, gFrz, gNil, gExc, eVar, eC, e1, e2, eA, aNil, aCons, eTup, eLst, eCall, lCall, listR, eChain, tV, tAndD, tOrD, tNotD, eAnd, eOr, eNot, eIf, eL, lDisp, lList, lRep, oNone, oSome, eSl, iSeq, iRng1, iRng2, iZipD, iEnumD, iRevD, lListRange, lLc, eSorted, eSortSet, eLenSet, eBor, tBor, tYesD, noE, toB, dCmp, dSub, dNeg, dInt, dLen, dIs, dIsNot, List.map_cons, List.map_nil, List.length_cons, List.length_nil, Nat.reduceAdd, Nat.reduceSub, Nat.reduceLeDiff, List.replicate, List.cons_append, List.nil_append, List.append_nil, List.getElem?_cons_zero, List.getElem?_cons_succ, List.set_cons_zero, List.set_cons_succ, if_true, if_false, reduceIte, Bool.not_true, Bool.not_false, Bool.false_eq_true, reduceCtorEq, dEq_str os okTold]
        by_cases h1 : s = sTold
        · subst h1
          simp only [dIx_t0, dIx_t1, dIx_l0, dIx_l1, toItems, itemsOf, runF, runL, startE, endF, endL, R.bind_ok, R.bind_exc, R.bind_stuck, gSeq, gIf, gSet, gOwn, gRet, gRetL, gRetO, gDrop, gTgt, gT, gsC, gsN, gN, gFor, gApp, gExt, gFrz, gNil, gExc, eVar, eC, e1, e2, eA, aNil, aCons, eTup, eLst, eCall, lCall, listR, eChain, tV, tAndD, tOrD, tNotD, eAnd, eOr, eNot, eIf, eL, lDisp, lList, lRep, oNone, oSome, eSl, iSeq, iRng1, iRng2, iZipD, iEnumD, iRevD, lListRange, lLc, eSorted, eSortSet, eLenSet, eBor, tBor, tYesD, noE, toB, dCmp, dSub, dNeg, dInt, dLen, dIs, dIsNot, List.map_cons, List.map_nil, List.length_cons, List.length_nil, Nat.reduceAdd, Nat.reduceSub, Nat.reduceLeDiff, List.replicate, List.cons_append, List.nil_append, List.append_nil, List.getElem?_cons_zero, List.getElem?_cons_succ, List.set_cons_zero, List.set_cons_succ, if_true, if_false, reduceIte, Bool.not_true, Bool.not_false, Bool.false_eq_true, reduceCtorEq, decide_true, dEq_int, List.length_map, topB]
          cases rest with
          | nil =>
            have e : decide ((((0 : Nat) + 1 + 1 : Nat) : Int) = 2) = true := by decide
            simp only [dIx_t0, dIx_t1, dIx_l0, dIx_l1, toItems, itemsOf, runF, runL, startE, endF, endL, R.bind_ok, R.bind_exc, R.bind_stuck, gSeq, gIf, gSet, gOwn, gRet, gRetL, gRetO, gDrop, gTgt, gT, gsC, gsN, gN, gFor, gApp, gExt, gFrz, gNil, gExc, eVar, eC, e1, e2, eA, aNil, aCons, eTup, eLst, eCall, lCall, listR, eChain, tV, tAndD, tOrD, tNotD, eAnd, eOr, eNot, eIf, eL, lDisp, lList, lRep, oNone, oSome, eSl, iSeq, iRng1, iRng2, iZipD, iEnumD, iRevD, lListRange, lLc, eSorted, eSortSet, eLenSet, eBor, tBor, tYesD, noE, toB, dCmp, dSub, dNeg, dInt, dLen, dIs, dIsNot, List.map_cons, List.map_nil, List.length_cons, List.length_nil, Nat.reduceAdd, Nat.reduceSub, Nat.reduceLeDiff, List.replicate, List.cons_append, List.nil_append, List.append_nil, List.getElem?_cons_zero, List.getElem?_cons_succ, List.set_cons_zero, List.set_cons_succ, if_true, if_false, reduceIte, Bool.not_true, Bool.not_false, Bool.false_eq_true, reduceCtorEq, e]
            match cs, hc with
            | [], _ => simp only [dIx_pick, dMod, dDiv, dList, dTuple, dRev, dSl, Int.reduceLT, Int.reduceLE, Int.reduceEq, Int.reduceSub, Int.reduceAdd, and_self, true_and, and_true, and_false, false_and, Int.cast_ofNat_Int, decide_true, decide_false, Bool.true_and, Bool.false_and, Bool.and_true, Bool.and_false, dIx_t0, dIx_t1, dIx_l0, dIx_l1, toItems, itemsOf, runF, runL, startE, endF, endL, R.bind_ok, R.bind_exc, R.bind_stuck, gSeq, gIf, gSet, gOwn, gRet, gRetL, gRetO, gDrop, gTgt, gT, gsC, gsN, gN, gFor, gApp, gExt, gFrz, gNil, gExc, eVar, eC, e1, e2, eA, aNil, aCons, eTup, eLst, eCall, lCall, listR, eChain, tV, tAndD, tOrD, tNotD, eAnd, eOr, eNot, eIf, eL, lDisp, lList, lRep, oNone, oSome, eSl, iSeq, iRng1, iRng2, iZipD, iEnumD, iRevD, lListRange, lLc, eSorted, eSortSet, eLenSet, eBor, tBor, tYesD, noE, toB, dCmp, dSub, dNeg, dInt, dLen, dIs, dIsNot, List.map_cons, List.map_nil, List.length_cons, List.length_nil, Nat.reduceAdd, Nat.reduceSub, Nat.reduceLeDiff, List.replicate, List.cons_append, List.nil_append, List.append_nil, List.getElem?_cons_zero, List.getElem?_cons_succ, List.set_cons_zero, List.set_cons_succ, if_true, if_false, reduceIte, Bool.not_true, Bool.not_false, Bool.false_eq_true, reduceCtorEq, toldB]
            | [c], hc => simp only [dIx_pick, dMod, dDiv, dList, dTuple, dRev, dSl, Int.reduceLT, Int.reduceLE, Int.reduceEq, Int.reduceSub, Int.reduceAdd, and_self, true_and, and_true, and_false, false_and, Int.cast_ofNat_Int, decide_true, decide_false, Bool.true_and, Bool.false_and, Bool.and_true, Bool.and_false, dIx_t0, dIx_t1, dIx_l0, dIx_l1, toItems, itemsOf, runF, runL, startE, endF, endL, R.bind_ok, R.bind_exc, R.bind_stuck, gSeq, gIf, gSet, gOwn, gRet, gRetL, gRetO, gDrop, gTgt, gT, gsC, gsN, gN, gFor, gApp, gExt, gFrz, gNil, gExc, eVar, eC, e1, e2, eA, aNil, aCons, eTup, eLst, eCall, lCall, listR, eChain, tV, tAndD, tOrD, tNotD, eAnd, eOr, eNot, eIf, eL, lDisp, lList, lRep, oNone, oSome, eSl, iSeq, iRng1, iRng2, iZipD, iEnumD, iRevD, lListRange, lLc, eSorted, eSortSet, eLenSet, eBor, tBor, tYesD, noE, toB, dCmp, dSub, dNeg, dInt, dLen, dIs, dIsNot, List.map_cons, List.map_nil, List.length_cons, List.length_nil, Nat.reduceAdd, Nat.reduceSub, Nat.reduceLeDiff, List.replicate, List.cons_append, List.nil_append, List.append_nil, List.getElem?_cons_zero, List.getElem?_cons_succ, List.set_cons_zero, List.set_cons_succ, if_true, if_false, reduceIte, Bool.not_true, Bool.not_false, Bool.false_eq_true, reduceCtorEq, toldB, F__law_is_case_told_eq c (hc c (by simp)) x hx.flat]
            | c :: c2 :: r, _ =>
              have e : ¬ (((r.length + 1 + 1 : Nat) : Int) = 1) := by omega
              simp only [dIx_t0, dIx_t1, dIx_l0, dIx_l1, toItems, itemsOf, runF, runL, startE, endF, endL, R.bind_ok, R.bind_exc, R.bind_stuck, gSeq, gIf, gSet, gOwn, gRet, gRetL, gRetO, gDrop, gTgt, gT, gsC, gsN, gN, gFor, gApp, gExt, gFrz, gNil, gExc, eVar, eC, e1, e2, eA, aNil, aCons, eTup, eLst, eCall, lCall, listR, eChain, tV, tAndD, tOrD, tNotD, eAnd, eOr, eNot, eIf, eL, lDisp, lList, lRep, oNone, oSome, eSl, iSeq, iRng1, iRng2, iZipD, iEnumD, iRevD, lListRange, lLc, eSorted, eSortSet, eLenSet, eBor, tBor, tYesD, noE, toB, dCmp, dSub, dNeg, dInt, dLen, dIs, dIsNot, List.map_cons, List.map_nil, List.length_cons, List.length_nil, Nat.reduceAdd, Nat.reduceSub, Nat.reduceLeDiff, List.replicate, List.cons_append, List.nil_append, List.append_nil, List.getElem?_cons_zero, List.getElem?_cons_succ, List.set_cons_zero, List.set_cons_succ, if_true, if_false, reduceIte, Bool.not_true, Bool.not_false, Bool.false_eq_true, reduceCtorEq, decide_eq_false e, toldB]
          | cons z r =>
            have e : ¬ (((r.length + 1 + 1 + 1 : Nat) : Int) = 2) := by omega
            simp only [dIx_t0, dIx_t1, dIx_l0, dIx_l1, toItems, itemsOf, runF, runL, startE, endF, endL, R.bind_ok, R.bind_exc, R.bind_stuck, gSeq, gIf, gSet, gOwn, gRet, gRetL, gRetO, gDrop, gTgt, gT, gsC, gsN, gN, gFor, gApp, gExt, gFrz, gNil, gExc, eVar, eC, e1, e2, eA, aNil, aCons, eTup, eLst, eCall, lCall, listR, eChain, tV, tAndD, tOrD, tNotD, eAnd, eOr, eNot, eIf, eL, lDisp, lList, lRep, oNone, oSome, eSl, iSeq, iRng1, iRng2, iZipD, iEnumD, iRevD, lListRange, lLc, eSorted, eSortSet, eLenSet, eBor, tBor, tYesD, noE, toB, dCmp, dSub, dNeg, dInt, dLen, dIs, dIsNot, List.map_cons, List.map_nil, List.length_cons, List.length_nil, Nat.reduceAdd, Nat.reduceSub, Nat.reduceLeDiff, List.replicate, List.cons_append, List.nil_append, List.append_nil, List.getElem?_cons_zero, List.getElem?_cons_succ, List.set_cons_zero, List.set_cons_succ, if_true, if_false, reduceIte, Bool.not_true, Bool.not_false, Bool.false_eq_true, reduceCtorEq, decide_eq_false e, toldB]
        · simp only [dIx_t0, dIx_t1, dIx_l0, dIx_l1, toItems, itemsOf, runF, runL, startE, endF, endL, R.bind_ok, R.bind_exc, R.bind_stuck, gSeq, gIf, gSet, gOwn, gRet, gRetL, gRetO, gDrop, gTgt, gT, gsC, gsN, gN, gFor, gApp, gExt, gFrz, gNil, gExc, eVar, eC, e1, e2, eA, aNil, aCons, eTup, eLst, eCall, lCall, listR, eChain, tV, tAndD, tOrD, tNotD, eAnd, eOr, eNot, eIf, eL, lDisp, lList, lRep, oNone, oSome, eSl, iSeq, iRng1, iRng2, iZipD, iEnumD, iRevD, lListRange, lLc, eSorted, eSortSet, eLenSet, eBor, tBor, tYesD, noE, toB, dCmp, dSub, dNeg, dInt, dLen, dIs, dIsNot, List.map_cons, List.map_nil, List.length_cons, List.length_nil, Nat.reduceAdd, Nat.reduceSub, Nat.reduceLeDiff, List.replicate, List.cons_append, List.nil_append, List.append_nil, List.getElem?_cons_zero, List.getElem?_cons_succ, List.set_cons_zero, List.set_cons_succ, if_true, if_false, reduceIte, Bool.not_true, Bool.not_false, Bool.false_eq_true, reduceCtorEq, decide_eq_false h1, dNe_str os okWeigh, topB, if_neg h1]
          by_cases h2 : s = sWeigh
          · subst h2
            simp only [dIx_t0, dIx_t1, dIx_l0, dIx_l1, toItems, itemsOf, runF, runL, startE, endF, endL, R.bind_ok, R.bind_exc, R.bind_stuck, gSeq, gIf, gSet, gOwn, gRet, gRetL, gRetO, gDrop, gTgt, gT, gsC, gsN, gN, gFor, gApp, gExt, gFrz, gNil, gExc, eVar, eC, e1, e2, eA, aNil, aCons, eTup, eLst, eCall, lCall, listR, eChain, tV, tAndD, tOrD, tNotD, eAnd, eOr, eNot, eIf, eL, lDisp, lList, lRep, oNone, oSome, eSl, iSeq, iRng1, iRng2, iZipD, iEnumD, iRevD, lListRange, lLc, eSorted, eSortSet, eLenSet, eBor, tBor, tYesD, noE, toB, dCmp, dSub, dNeg, dInt, dLen, dIs, dIsNot, List.map_cons, List.map_nil, List.length_cons, List.length_nil, Nat.reduceAdd, Nat.reduceSub, Nat.reduceLeDiff, List.replicate, List.cons_append, List.nil_append, List.append_nil, List.getElem?_cons_zero, List.getElem?_cons_succ, List.set_cons_zero, List.set_cons_succ, if_true, if_false, reduceIte, Bool.not_true, Bool.not_false, Bool.false_eq_true, reduceCtorEq, decide_true, dNe_int]
            match rest, hps with
            | [], _ => simp only [dIx_pick, dMod, dDiv, dList, dTuple, dRev, dSl, Int.reduceLT, Int.reduceLE, Int.reduceEq, Int.reduceSub, Int.reduceAdd, and_self, true_and, and_true, and_false, false_and, Int.cast_ofNat_Int, decide_true, decide_false, Bool.true_and, Bool.false_and, Bool.and_true, Bool.and_false, dIx_t0, dIx_t1, dIx_l0, dIx_l1, toItems, itemsOf, runF, runL, startE, endF, endL, R.bind_ok, R.bind_exc, R.bind_stuck, gSeq, gIf, gSet, gOwn, gRet, gRetL, gRetO, gDrop, gTgt, gT, gsC, gsN, gN, gFor, gApp, gExt, gFrz, gNil, gExc, eVar, eC, e1, e2, eA, aNil, aCons, eTup, eLst, eCall, lCall, listR, eChain, tV, tAndD, tOrD, tNotD, eAnd, eOr, eNot, eIf, eL, lDisp, lList, lRep, oNone, oSome, eSl, iSeq, iRng1, iRng2, iZipD, iEnumD, iRevD, lListRange, lLc, eSorted, eSortSet, eLenSet, eBor, tBor, tYesD, noE, toB, dCmp, dSub, dNeg, dInt, dLen, dIs, dIsNot, List.map_cons, List.map_nil, List.length_cons, List.length_nil, Nat.reduceAdd, Nat.reduceSub, Nat.reduceLeDiff, List.replicate, List.cons_append, List.nil_append, List.append_nil, List.getElem?_cons_zero, List.getElem?_cons_succ, List.set_cons_zero, List.set_cons_succ, if_true, if_false, reduceIte, Bool.not_true, Bool.not_false, Bool.false_eq_true, reduceCtorEq, weighB]
            | z1 :: z2 :: r, _ =>
              have e : ¬ (((r.length + 1 + 1 + 1 + 1 : Nat) : Int) = 3) := by omega
              simp only [dIx_t0, dIx_t1, dIx_l0, dIx_l1, toItems, itemsOf, runF, runL, startE, endF, endL, R.bind_ok, R.bind_exc, R.bind_stuck, gSeq, gIf, gSet, gOwn, gRet, gRetL, gRetO, gDrop, gTgt, gT, gsC, gsN, gN, gFor, gApp, gExt, gFrz, gNil, gExc, eVar, eC, e1, e2, eA, aNil, aCons, eTup, eLst, eCall, lCall, listR, eChain, tV, tAndD, tOrD, tNotD, eAnd, eOr, eNot, eIf, eL, lDisp, lList, lRep, oNone, oSome, eSl, iSeq, iRng1, iRng2, iZipD, iEnumD, iRevD, lListRange, lLc, eSorted, eSortSet, eLenSet, eBor, tBor, tYesD, noE, toB, dCmp, dSub, dNeg, dInt, dLen, dIs, dIsNot, List.map_cons, List.map_nil, List.length_cons, List.length_nil, Nat.reduceAdd, Nat.reduceSub, Nat.reduceLeDiff, List.replicate, List.cons_append, List.nil_append, List.append_nil, List.getElem?_cons_zero, List.getElem?_cons_succ, List.set_cons_zero, List.set_cons_succ, if_true, if_false, reduceIte, Bool.not_true, Bool.not_false, Bool.false_eq_true, reduceCtorEq, decide_eq_false e, weighB]
            | [z], hps =>
              have e : decide ((((0 : Nat) + 1 + 1 + 1 : Nat) : Int) = 3) = true := by decide
              have hxw : (sh 61 x ∧ ∀ xs, x = .tuple xs → ∀ ys, .tuple ys ∈ xs → ys.length ≤ 30) ∨ x = .dict [] := .inl ⟨sh_up hx.1 (by decide), fun us e ys h => (hx.2 us e).2 ys h⟩
              simp only [dIx_t0, dIx_t1, dIx_l0, dIx_l1, toItems, itemsOf, runF, runL, startE, endF, endL, R.bind_ok, R.bind_exc, R.bind_stuck, gSeq, gIf, gSet, gOwn, gRet, gRetL, gRetO, gDrop, gTgt, gT, gsC, gsN, gN, gFor, gApp, gExt, gFrz, gNil, gExc, eVar, eC, e1, e2, eA, aNil, aCons, eTup, eLst, eCall, lCall, listR, eChain, tV, tAndD, tOrD, tNotD, eAnd, eOr, eNot, eIf, eL, lDisp, lList, lRep, oNone, oSome, eSl, iSeq, iRng1, iRng2, iZipD, iEnumD, iRevD, lListRange, lLc, eSorted, eSortSet, eLenSet, eBor, tBor, tYesD, noE, toB, dCmp, dSub, dNeg, dInt, dLen, dIs, dIsNot, List.map_cons, List.map_nil, List.length_cons, List.length_nil, Nat.reduceAdd, Nat.reduceSub, Nat.reduceLeDiff, List.replicate, List.cons_append, List.nil_append, List.append_nil, List.getElem?_cons_zero, List.getElem?_cons_succ, List.set_cons_zero, List.set_cons_succ, if_true, if_false, reduceIte, Bool.not_true, Bool.not_false, Bool.false_eq_true, reduceCtorEq, e, F__law_is_weighing_eq m x hxw]
              have hz := hty z (by simp)
              cases hw : isW m x
              · simp only [dIx_t0, dIx_t1, dIx_l0, dIx_l1, toItems, itemsOf, runF, runL, startE, endF, endL, R.bind_ok, R.bind_exc, R.bind_stuck, gSeq, gIf, gSet, gOwn, gRet, gRetL, gRetO, gDrop, gTgt, gT, gsC, gsN, gN, gFor, gApp, gExt, gFrz, gNil, gExc, eVar, eC, e1, e2, eA, aNil, aCons, eTup, eLst, eCall, lCall, listR, eChain, tV, tAndD, tOrD, tNotD, eAnd, eOr, eNot, eIf, eL, lDisp, lList, lRep, oNone, oSome, eSl, iSeq, iRng1, iRng2, iZipD, iEnumD, iRevD, lListRange, lLc, eSorted, eSortSet, eLenSet, eBor, tBor, tYesD, noE, toB, dCmp, dSub, dNeg, dInt, dLen, dIs, dIsNot, List.map_cons, List.map_nil, List.length_cons, List.length_nil, Nat.reduceAdd, Nat.reduceSub, Nat.reduceLeDiff, List.replicate, List.cons_append, List.nil_append, List.append_nil, List.getElem?_cons_zero, List.getElem?_cons_succ, List.set_cons_zero, List.set_cons_succ, if_true, if_false, reduceIte, Bool.not_true, Bool.not_false, Bool.false_eq_true, reduceCtorEq]
                unfold weighB
                split
                · rw [hw]; rfl
                · rfl
              · simp only [dIx_t0, dIx_t1, dIx_l0, dIx_l1, toItems, itemsOf, runF, runL, startE, endF, endL, R.bind_ok, R.bind_exc, R.bind_stuck, gSeq, gIf, gSet, gOwn, gRet, gRetL, gRetO, gDrop, gTgt, gT, gsC, gsN, gN, gFor, gApp, gExt, gFrz, gNil, gExc, eVar, eC, e1, e2, eA, aNil, aCons, eTup, eLst, eCall, lCall, listR, eChain, tV, tAndD, tOrD, tNotD, eAnd, eOr, eNot, eIf, eL, lDisp, lList, lRep, oNone, oSome, eSl, iSeq, iRng1, iRng2, iZipD, iEnumD, iRevD, lListRange, lLc, eSorted, eSortSet, eLenSet, eBor, tBor, tYesD, noE, toB, dCmp, dSub, dNeg, dInt, dLen, dIs, dIsNot, List.map_cons, List.map_nil, List.length_cons, List.length_nil, Nat.reduceAdd, Nat.reduceSub, Nat.reduceLeDiff, List.replicate, List.cons_append, List.nil_append, List.append_nil, List.getElem?_cons_zero, List.getElem?_cons_succ, List.set_cons_zero, List.set_cons_succ, if_true, if_false, reduceIte, Bool.not_true, Bool.not_false, Bool.false_eq_true, reduceCtorEq, ix2, isi_tuple z hz]
                cases z
                case tuple ps =>
                  obtain ⟨_, hp⟩ := hps ps rfl
                  have hp := hp rfl hw
                  simp only [dIx_t0, dIx_t1, dIx_l0, dIx_l1, toItems, itemsOf, runF, runL, startE, endF, endL, R.bind_ok, R.bind_exc, R.bind_stuck, gSeq, gIf, gSet, gOwn, gRet, gRetL, gRetO, gDrop, gTgt, gT, gsC, gsN, gN, gFor, gApp, gExt, gFrz, gNil, gExc, eVar, eC, e1, e2, eA, aNil, aCons, eTup, eLst, eCall, lCall, listR, eChain, tV, tAndD, tOrD, tNotD, eAnd, eOr, eNot, eIf, eL, lDisp, lList, lRep, oNone, oSome, eSl, iSeq, iRng1, iRng2, iZipD, iEnumD, iRevD, lListRange, lLc, eSorted, eSortSet, eLenSet, eBor, tBor, tYesD, noE, toB, dCmp, dSub, dNeg, dInt, dLen, dIs, dIsNot, List.map_cons, List.map_nil, List.length_cons, List.length_nil, Nat.reduceAdd, Nat.reduceSub, Nat.reduceLeDiff, List.replicate, List.cons_append, List.nil_append, List.append_nil, List.getElem?_cons_zero, List.getElem?_cons_succ, List.set_cons_zero, List.set_cons_succ, if_true, if_false, reduceIte, Bool.not_true, Bool.not_false, Bool.false_eq_true, reduceCtorEq, dNe_int]
                  match ps, hp with
                  | [], _ => simp only [dIx_pick, dMod, dDiv, dList, dTuple, dRev, dSl, Int.reduceLT, Int.reduceLE, Int.reduceEq, Int.reduceSub, Int.reduceAdd, and_self, true_and, and_true, and_false, false_and, Int.cast_ofNat_Int, decide_true, decide_false, Bool.true_and, Bool.false_and, Bool.and_true, Bool.and_false, dIx_t0, dIx_t1, dIx_l0, dIx_l1, toItems, itemsOf, runF, runL, startE, endF, endL, R.bind_ok, R.bind_exc, R.bind_stuck, gSeq, gIf, gSet, gOwn, gRet, gRetL, gRetO, gDrop, gTgt, gT, gsC, gsN, gN, gFor, gApp, gExt, gFrz, gNil, gExc, eVar, eC, e1, e2, eA, aNil, aCons, eTup, eLst, eCall, lCall, listR, eChain, tV, tAndD, tOrD, tNotD, eAnd, eOr, eNot, eIf, eL, lDisp, lList, lRep, oNone, oSome, eSl, iSeq, iRng1, iRng2, iZipD, iEnumD, iRevD, lListRange, lLc, eSorted, eSortSet, eLenSet, eBor, tBor, tYesD, noE, toB, dCmp, dSub, dNeg, dInt, dLen, dIs, dIsNot, List.map_cons, List.map_nil, List.length_cons, List.length_nil, Nat.reduceAdd, Nat.reduceSub, Nat.reduceLeDiff, List.replicate, List.cons_append, List.nil_append, List.append_nil, List.getElem?_cons_zero, List.getElem?_cons_succ, List.set_cons_zero, List.set_cons_succ, if_true, if_false, reduceIte, Bool.not_true, Bool.not_false, Bool.false_eq_true, reduceCtorEq, weighB]
                  | [_], _ => simp only [dIx_pick, dMod, dDiv, dList, dTuple, dRev, dSl, Int.reduceLT, Int.reduceLE, Int.reduceEq, Int.reduceSub, Int.reduceAdd, and_self, true_and, and_true, and_false, false_and, Int.cast_ofNat_Int, decide_true, decide_false, Bool.true_and, Bool.false_and, Bool.and_true, Bool.and_false, dIx_t0, dIx_t1, dIx_l0, dIx_l1, toItems, itemsOf, runF, runL, startE, endF, endL, R.bind_ok, R.bind_exc, R.bind_stuck, gSeq, gIf, gSet, gOwn, gRet, gRetL, gRetO, gDrop, gTgt, gT, gsC, gsN, gN, gFor, gApp, gExt, gFrz, gNil, gExc, eVar, eC, e1, e2, eA, aNil, aCons, eTup, eLst, eCall, lCall, listR, eChain, tV, tAndD, tOrD, tNotD, eAnd, eOr, eNot, eIf, eL, lDisp, lList, lRep, oNone, oSome, eSl, iSeq, iRng1, iRng2, iZipD, iEnumD, iRevD, lListRange, lLc, eSorted, eSortSet, eLenSet, eBor, tBor, tYesD, noE, toB, dCmp, dSub, dNeg, dInt, dLen, dIs, dIsNot, List.map_cons, List.map_nil, List.length_cons, List.length_nil, Nat.reduceAdd, Nat.reduceSub, Nat.reduceLeDiff, List.replicate, List.cons_append, List.nil_append, List.append_nil, List.getElem?_cons_zero, List.getElem?_cons_succ, List.set_cons_zero, List.set_cons_succ, if_true, if_false, reduceIte, Bool.not_true, Bool.not_false, Bool.false_eq_true, reduceCtorEq, weighB]
                  | [_, _], _ => simp only [dIx_pick, dMod, dDiv, dList, dTuple, dRev, dSl, Int.reduceLT, Int.reduceLE, Int.reduceEq, Int.reduceSub, Int.reduceAdd, and_self, true_and, and_true, and_false, false_and, Int.cast_ofNat_Int, decide_true, decide_false, Bool.true_and, Bool.false_and, Bool.and_true, Bool.and_false, dIx_t0, dIx_t1, dIx_l0, dIx_l1, toItems, itemsOf, runF, runL, startE, endF, endL, R.bind_ok, R.bind_exc, R.bind_stuck, gSeq, gIf, gSet, gOwn, gRet, gRetL, gRetO, gDrop, gTgt, gT, gsC, gsN, gN, gFor, gApp, gExt, gFrz, gNil, gExc, eVar, eC, e1, e2, eA, aNil, aCons, eTup, eLst, eCall, lCall, listR, eChain, tV, tAndD, tOrD, tNotD, eAnd, eOr, eNot, eIf, eL, lDisp, lList, lRep, oNone, oSome, eSl, iSeq, iRng1, iRng2, iZipD, iEnumD, iRevD, lListRange, lLc, eSorted, eSortSet, eLenSet, eBor, tBor, tYesD, noE, toB, dCmp, dSub, dNeg, dInt, dLen, dIs, dIsNot, List.map_cons, List.map_nil, List.length_cons, List.length_nil, Nat.reduceAdd, Nat.reduceSub, Nat.reduceLeDiff, List.replicate, List.cons_append, List.nil_append, List.append_nil, List.getElem?_cons_zero, List.getElem?_cons_succ, List.set_cons_zero, List.set_cons_succ, if_true, if_false, reduceIte, Bool.not_true, Bool.not_false, Bool.false_eq_true, reduceCtorEq, weighB]
                  | p0 :: p1 :: p2 :: p3 :: r, _ =>
                    have e : ¬ (((r.length + 1 + 1 + 1 + 1 : Nat) : Int) = 3) := by omega
                    simp only [dIx_t0, dIx_t1, dIx_l0, dIx_l1, toItems, itemsOf, runF, runL, startE, endF, endL, R.bind_ok, R.bind_exc, R.bind_stuck, gSeq, gIf, gSet, gOwn, gRet, gRetL, gRetO, gDrop, gTgt, gT, gsC, gsN, gN, gFor, gApp, gExt, gFrz, gNil, gExc, eVar, eC, e1, e2, eA, aNil, aCons, eTup, eLst, eCall, lCall, listR, eChain, tV, tAndD, tOrD, tNotD, eAnd, eOr, eNot, eIf, eL, lDisp, lList, lRep, oNone, oSome, eSl, iSeq, iRng1, iRng2, iZipD, iEnumD, iRevD, lListRange, lLc, eSorted, eSortSet, eLenSet, eBor, tBor, tYesD, noE, toB, dCmp, dSub, dNeg, dInt, dLen, dIs, dIsNot, List.map_cons, List.map_nil, List.length_cons, List.length_nil, Nat.reduceAdd, Nat.reduceSub, Nat.reduceLeDiff, List.replicate, List.cons_append, List.nil_append, List.append_nil, List.getElem?_cons_zero, List.getElem?_cons_succ, List.set_cons_zero, List.set_cons_succ, if_true, if_false, reduceIte, Bool.not_true, Bool.not_false, Bool.false_eq_true, reduceCtorEq, decide_eq_false e, weighB]
                  | [p0, p1, p2], hp =>
                    obtain ⟨w, rfl, _⟩ := isW_enc hw
                    have wok := isW_ok hw hx
                    obtain ⟨a0, b0, e0⟩ := law_step wok hc hl 0 p0 p0 p1 p2 .no .no rfl (hg p0 (hp p0 (by simp)))
                    obtain ⟨a1, b1, e1'⟩ := law_step wok hc hl 1 p1 p0 p1 p2 a0 b0 rfl (hg p1 (hp p1 (by simp)))
                    obtain ⟨a2, b2, e2'⟩ := law_step wok hc hl 2 p2 p0 p1 p2 a1 b1 rfl (hg p2 (hp p2 (by simp)))
                    have r3 : rangeD 0 3 = [.int 0, .int 1, .int 2] := rfl
                    simp only [Int.reduceSub, Int.reduceNeg] at e0 e1' e2'
                    simp only [dIx_pick, dMod, dDiv, dList, dTuple, dRev, dSl, Int.reduceLT, Int.reduceLE, Int.reduceEq, Int.reduceSub, Int.reduceAdd, and_self, true_and, and_true, and_false, false_and, Int.cast_ofNat_Int, decide_true, decide_false, Bool.true_and, Bool.false_and, Bool.and_true, Bool.and_false, dIx_t0, dIx_t1, dIx_l0, dIx_l1, toItems, itemsOf, runF, runL, startE, endF, endL, R.bind_ok, R.bind_exc, R.bind_stuck, gSeq, gIf, gSet, gOwn, gRet, gRetL, gRetO, gDrop, gTgt, gT, gsC, gsN, gN, gFor, gApp, gExt, gFrz, gNil, gExc, eVar, eC, e1, e2, eA, aNil, aCons, eTup, eLst, eCall, lCall, listR, eChain, tV, tAndD, tOrD, tNotD, eAnd, eOr, eNot, eIf, eL, lDisp, lList, lRep, oNone, oSome, eSl, iSeq, iRng1, iRng2, iZipD, iEnumD, iRevD, lListRange, lLc, eSorted, eSortSet, eLenSet, eBor, tBor, tYesD, noE, toB, dCmp, dSub, dNeg, dInt, dLen, dIs, dIsNot, List.map_cons, List.map_nil, List.length_cons, List.length_nil, Nat.reduceAdd, Nat.reduceSub, Nat.reduceLeDiff, List.replicate, List.cons_append, List.nil_append, List.append_nil, List.getElem?_cons_zero, List.getElem?_cons_succ, List.set_cons_zero, List.set_cons_succ, if_true, if_false, reduceIte, Bool.not_true, Bool.not_false, Bool.false_eq_true, reduceCtorEq, loopF, r3, weighB, hw, decW_enc, e0]
                    by_cases b0' : partB f cs w (-1) p0 = true <;> (try simp only [Bool.not_eq_true] at b0') <;> simp only [b0']
                    case neg => simp only [dIx_t0, dIx_t1, dIx_l0, dIx_l1, toItems, itemsOf, runF, runL, startE, endF, endL, R.bind_ok, R.bind_exc, R.bind_stuck, gSeq, gIf, gSet, gOwn, gRet, gRetL, gRetO, gDrop, gTgt, gT, gsC, gsN, gN, gFor, gApp, gExt, gFrz, gNil, gExc, eVar, eC, e1, e2, eA, aNil, aCons, eTup, eLst, eCall, lCall, listR, eChain, tV, tAndD, tOrD, tNotD, eAnd, eOr, eNot, eIf, eL, lDisp, lList, lRep, oNone, oSome, eSl, iSeq, iRng1, iRng2, iZipD, iEnumD, iRevD, lListRange, lLc, eSorted, eSortSet, eLenSet, eBor, tBor, tYesD, noE, toB, dCmp, dSub, dNeg, dInt, dLen, dIs, dIsNot, List.map_cons, List.map_nil, List.length_cons, List.length_nil, Nat.reduceAdd, Nat.reduceSub, Nat.reduceLeDiff, List.replicate, List.cons_append, List.nil_append, List.append_nil, List.getElem?_cons_zero, List.getElem?_cons_succ, List.set_cons_zero, List.set_cons_succ, if_true, if_false, reduceIte, Bool.not_true, Bool.not_false, Bool.false_eq_true, reduceCtorEq, Bool.false_and]
                    case pos =>
                      simp only [dIx_t0, dIx_t1, dIx_l0, dIx_l1, toItems, itemsOf, runF, runL, startE, endF, endL, R.bind_ok, R.bind_exc, R.bind_stuck, gSeq, gIf, gSet, gOwn, gRet, gRetL, gRetO, gDrop, gTgt, gT, gsC, gsN, gN, gFor, gApp, gExt, gFrz, gNil, gExc, eVar, eC, e1, e2, eA, aNil, aCons, eTup, eLst, eCall, lCall, listR, eChain, tV, tAndD, tOrD, tNotD, eAnd, eOr, eNot, eIf, eL, lDisp, lList, lRep, oNone, oSome, eSl, iSeq, iRng1, iRng2, iZipD, iEnumD, iRevD, lListRange, lLc, eSorted, eSortSet, eLenSet, eBor, tBor, tYesD, noE, toB, dCmp, dSub, dNeg, dInt, dLen, dIs, dIsNot, List.map_cons, List.map_nil, List.length_cons, List.length_nil, Nat.reduceAdd, Nat.reduceSub, Nat.reduceLeDiff, List.replicate, List.cons_append, List.nil_append, List.append_nil, List.getElem?_cons_zero, List.getElem?_cons_succ, List.set_cons_zero, List.set_cons_succ, if_true, if_false, reduceIte, Bool.not_true, Bool.not_false, Bool.false_eq_true, reduceCtorEq, Bool.true_and, e1']
                      by_cases b1' : partB f cs w 0 p1 = true <;> (try simp only [Bool.not_eq_true] at b1') <;> simp only [b1']
                      case neg => simp only [dIx_t0, dIx_t1, dIx_l0, dIx_l1, toItems, itemsOf, runF, runL, startE, endF, endL, R.bind_ok, R.bind_exc, R.bind_stuck, gSeq, gIf, gSet, gOwn, gRet, gRetL, gRetO, gDrop, gTgt, gT, gsC, gsN, gN, gFor, gApp, gExt, gFrz, gNil, gExc, eVar, eC, e1, e2, eA, aNil, aCons, eTup, eLst, eCall, lCall, listR, eChain, tV, tAndD, tOrD, tNotD, eAnd, eOr, eNot, eIf, eL, lDisp, lList, lRep, oNone, oSome, eSl, iSeq, iRng1, iRng2, iZipD, iEnumD, iRevD, lListRange, lLc, eSorted, eSortSet, eLenSet, eBor, tBor, tYesD, noE, toB, dCmp, dSub, dNeg, dInt, dLen, dIs, dIsNot, List.map_cons, List.map_nil, List.length_cons, List.length_nil, Nat.reduceAdd, Nat.reduceSub, Nat.reduceLeDiff, List.replicate, List.cons_append, List.nil_append, List.append_nil, List.getElem?_cons_zero, List.getElem?_cons_succ, List.set_cons_zero, List.set_cons_succ, if_true, if_false, reduceIte, Bool.not_true, Bool.not_false, Bool.false_eq_true, reduceCtorEq, Bool.false_and]
                      case pos =>
                        simp only [dIx_t0, dIx_t1, dIx_l0, dIx_l1, toItems, itemsOf, runF, runL, startE, endF, endL, R.bind_ok, R.bind_exc, R.bind_stuck, gSeq, gIf, gSet, gOwn, gRet, gRetL, gRetO, gDrop, gTgt, gT, gsC, gsN, gN, gFor, gApp, gExt, gFrz, gNil, gExc, eVar, eC, e1, e2, eA, aNil, aCons, eTup, eLst, eCall, lCall, listR, eChain, tV, tAndD, tOrD, tNotD, eAnd, eOr, eNot, eIf, eL, lDisp, lList, lRep, oNone, oSome, eSl, iSeq, iRng1, iRng2, iZipD, iEnumD, iRevD, lListRange, lLc, eSorted, eSortSet, eLenSet, eBor, tBor, tYesD, noE, toB, dCmp, dSub, dNeg, dInt, dLen, dIs, dIsNot, List.map_cons, List.map_nil, List.length_cons, List.length_nil, Nat.reduceAdd, Nat.reduceSub, Nat.reduceLeDiff, List.replicate, List.cons_append, List.nil_append, List.append_nil, List.getElem?_cons_zero, List.getElem?_cons_succ, List.set_cons_zero, List.set_cons_succ, if_true, if_false, reduceIte, Bool.not_true, Bool.not_false, Bool.false_eq_true, reduceCtorEq, Bool.true_and, e2']
                        by_cases b2' : partB f cs w 1 p2 = true <;> (try simp only [Bool.not_eq_true] at b2') <;> simp only [b2'] <;> simp only [dIx_t0, dIx_t1, dIx_l0, dIx_l1, toItems, itemsOf, runF, runL, startE, endF, endL, R.bind_ok, R.bind_exc, R.bind_stuck, gSeq, gIf, gSet, gOwn, gRet, gRetL, gRetO, gDrop, gTgt, gT, gsC, gsN, gN, gFor, gApp, gExt, gFrz, gNil, gExc, eVar, eC, e1, e2, eA, aNil, aCons, eTup, eLst, eCall, lCall, listR, eChain, tV, tAndD, tOrD, tNotD, eAnd, eOr, eNot, eIf, eL, lDisp, lList, lRep, oNone, oSome, eSl, iSeq, iRng1, iRng2, iZipD, iEnumD, iRevD, lListRange, lLc, eSorted, eSortSet, eLenSet, eBor, tBor, tYesD, noE, toB, dCmp, dSub, dNeg, dInt, dLen, dIs, dIsNot, List.map_cons, List.map_nil, List.length_cons, List.length_nil, Nat.reduceAdd, Nat.reduceSub, Nat.reduceLeDiff, List.replicate, List.cons_append, List.nil_append, List.append_nil, List.getElem?_cons_zero, List.getElem?_cons_succ, List.set_cons_zero, List.set_cons_succ, if_true, if_false, reduceIte, Bool.not_true, Bool.not_false, Bool.false_eq_true, reduceCtorEq]
                all_goals simp only [dIx_t0, dIx_t1, dIx_l0, dIx_l1, toItems, itemsOf, runF, runL, startE, endF, endL, R.bind_ok, R.bind_exc, R.bind_stuck, gSeq, gIf, gSet, gOwn, gRet, gRetL, gRetO, gDrop, gTgt, gT, gsC, gsN, gN, gFor, gApp, gExt, gFrz, gNil, gExc, eVar, eC, e1, e2, eA, aNil, aCons, eTup, eLst, eCall, lCall, listR, eChain, tV, tAndD, tOrD, tNotD, eAnd, eOr, eNot, eIf, eL, lDisp, lList, lRep, oNone, oSome, eSl, iSeq, iRng1, iRng2, iZipD, iEnumD, iRevD, lListRange, lLc, eSorted, eSortSet, eLenSet, eBor, tBor, tYesD, noE, toB, dCmp, dSub, dNeg, dInt, dLen, dIs, dIsNot, List.map_cons, List.map_nil, List.length_cons, List.length_nil, Nat.reduceAdd, Nat.reduceSub, Nat.reduceLeDiff, List.replicate, List.cons_append, List.nil_append, List.append_nil, List.getElem?_cons_zero, List.getElem?_cons_succ, List.set_cons_zero, List.set_cons_succ, if_true, if_false, reduceIte, Bool.not_true, Bool.not_false, Bool.false_eq_true, reduceCtorEq, weighB]
          · simp only [dIx_t0, dIx_t1, dIx_l0, dIx_l1, toItems, itemsOf, runF, runL, startE, endF, endL, R.bind_ok, R.bind_exc, R.bind_stuck, gSeq, gIf, gSet, gOwn, gRet, gRetL, gRetO, gDrop, gTgt, gT, gsC, gsN, gN, gFor, gApp, gExt, gFrz, gNil, gExc, eVar, eC, e1, e2, eA, aNil, aCons, eTup, eLst, eCall, lCall, listR, eChain, tV, tAndD, tOrD, tNotD, eAnd, eOr, eNot, eIf, eL, lDisp, lList, lRep, oNone, oSome, eSl, iSeq, iRng1, iRng2, iZipD, iEnumD, iRevD, lListRange, lLc, eSorted, eSortSet, eLenSet, eBor, tBor, tYesD, noE, toB, dCmp, dSub, dNeg, dInt, dLen, dIs, dIsNot, List.map_cons, List.map_nil, List.length_cons, List.length_nil, Nat.reduceAdd, Nat.reduceSub, Nat.reduceLeDiff, List.replicate, List.cons_append, List.nil_append, List.append_nil, List.getElem?_cons_zero, List.getElem?_cons_succ, List.set_cons_zero, List.set_cons_succ, if_true, if_false, reduceIte, Bool.not_true, Bool.not_false, Bool.false_eq_true, reduceCtorEq, decide_eq_false h2, if_neg h2]
      all_goals simp only [dIx_t0, dIx_t1, dIx_l0, dIx_l1, toItems, itemsOf, runF, runL, startE, endF, endL, R.bind_ok, R.bind_exc, R.bind_stuck, gSeq, gIf, gSet, gOwn, gRet, gRetL, gRetO, gDrop, gTgt, gT, gsC, gsN, gN, gFor, gApp, gExt, gFrz, gNil, gExc, eVar, eC, e1, e2, eA, aNil, aCons, eTup, eLst, eCall, lCall, listR, eChain, tV, tAndD, tOrD, tNotD, eAnd, eOr, eNot, eIf, eL, lDisp, lList, lRep, oNone, oSome, eSl, iSeq, iRng1, iRng2, iZipD, iEnumD, iRevD, lListRange, lLc, eSorted, eSortSet, eLenSet, eBor, tBor, tYesD, noE, toB, dCmp, dSub, dNeg, dInt, dLen, dIs, dIsNot, List.map_cons, List.map_nil, List.length_cons, List.length_nil, Nat.reduceAdd, Nat.reduceSub, Nat.reduceLeDiff, List.replicate, List.cons_append, List.nil_append, List.append_nil, List.getElem?_cons_zero, List.getElem?_cons_succ, List.set_cons_zero, List.set_cons_succ, if_true, if_false, reduceIte, Bool.not_true, Bool.not_false, Bool.false_eq_true, reduceCtorEq, topB]
  all_goals simp only [dIx_t0, dIx_t1, dIx_l0, dIx_l1, toItems, itemsOf, runF, runL, startE, endF, endL, R.bind_ok, R.bind_exc, R.bind_stuck, gSeq, gIf, gSet, gOwn, gRet, gRetL, gRetO, gDrop, gTgt, gT, gsC, gsN, gN, gFor, gApp, gExt, gFrz, gNil, gExc, eVar, eC, e1, e2, eA, aNil, aCons, eTup, eLst, eCall, lCall, listR, eChain, tV, tAndD, tOrD, tNotD, eAnd, eOr, eNot, eIf, eL, lDisp, lList, lRep, oNone, oSome, eSl, iSeq, iRng1, iRng2, iZipD, iEnumD, iRevD, lListRange, lLc, eSorted, eSortSet, eLenSet, eBor, tBor, tYesD, noE, toB, dCmp, dSub, dNeg, dInt, dLen, dIs, dIsNot, List.map_cons, List.map_nil, List.length_cons, List.length_nil, Nat.reduceAdd, Nat.reduceSub, Nat.reduceLeDiff, List.replicate, List.cons_append, List.nil_append, List.append_nil, List.getElem?_cons_zero, List.getElem?_cons_succ, List.set_cons_zero, List.set_cons_succ, if_true, if_false, reduceIte, Bool.not_true, Bool.not_false, Bool.false_eq_true, reduceCtorEq, topB]
theorem F__law_is_plan_eq {m : Nat} : ∀ (k n : Nat) (t : D), k + 1 ≤ n → fineP m k t → ∀ (cs : List (List Int)), (∀ c ∈ cs, CaseOk m c) → cs.length ≤ 100 → F__law_is_plan n [.int m, .list (cs.map encC), t] = .ok (.bool (planB m k cs t))
  | 0, n, t, hn, ht, cs, hc, hl => by
    obtain ⟨n, rfl⟩ : ∃ n', n = n' + 1 := ⟨n - 1, by omega⟩
    exact ltop_eq hc hl t ht fun p hp => hp.elim
  | k + 1, n, t, hn, ht, cs, hc, hl => by
    obtain ⟨n, rfl⟩ : ∃ n', n = n' + 1 := ⟨n - 1, by omega⟩
    exact ltop_eq hc hl t ht fun p hp l _ hcl hll => F__law_is_plan_eq k n p (by omega) hp l hcl hll
end W

set_option Elab.async false
set_option linter.all false
set_option maxRecDepth 100000
set_option maxHeartbeats 1000000
namespace W
open PySem PL
/-! ### plans, typed -/
inductive Pl where
  | none
  | told (c : List Int)
  | weigh (w : Wg) (l e r : Pl)
def encP : Pl → D
  | .none => .none
  | .told c => .tuple [.str sTold, encC c]
  | .weigh w l e r => .tuple [.str sWeigh, encW w, .tuple [encP l, encP e, encP r]]
def ValidP (m : Nat) : List (List Int) → Pl → Prop
  | cs, .none => cs = []
  | cs, .told c => cs = [c]
  | cs, .weigh w l e r => cs ≠ [] ∧ isW m (encW w) = true ∧ lookW (encW w) ∧ ValidP m (byW w (-1) cs) l ∧ ValidP m (byW w 0 cs) e ∧ ValidP m (byW w 1 cs) r
def hgt : Pl → Nat
  | .weigh _ l e r => 1 + max (hgt l) (max (hgt e) (hgt r))
  | _ => 0
theorem sgn_val (x : Int) : sgn x = -1 ∨ sgn x = 0 ∨ sgn x = 1 := by
  unfold sgn
  by_cases h1 : 0 < x
  · rw [if_pos h1]; simp
  · by_cases h2 : x < 0
    · rw [if_neg h1, if_pos h2]; simp
    · rw [if_neg h1, if_neg h2]; simp
theorem cm_val (w : Wg) (c : List Int) : cm w c = -1 ∨ cm w c = 0 ∨ cm w c = 1 := sgn_val _
theorem mem_by {w : Wg} {c : List Int} {cs : List (List Int)} (h : c ∈ cs) : c ∈ byW w (cm w c) cs := List.mem_filter.mpr ⟨h, decide_eq_true rfl⟩
theorem by_sub {w : Wg} {d : Int} {cs : List (List Int)} : ∀ c ∈ byW w d cs, c ∈ cs := fun c h => (List.mem_filter.mp h).1
/-- a plan that passes is a plan -/
theorem part_valid {m : Nat} {f : List (List Int) → D → Bool} {cs : List (List Int)} {w : Wg} {d : Int} {p : D} (hf : ∀ l, l ≠ [] → f l p = true → ∃ q, p = encP q ∧ ValidP m l q) (h : partB f cs w d p = true) : ∃ q, p = encP q ∧ ValidP m (byW w d cs) q := by
  unfold partB at h
  cases hb : byW w d cs with
  | nil =>
    rw [hb] at h
    cases p <;> simp at h
    exact ⟨.none, rfl, rfl⟩
  | cons c r =>
    rw [hb] at h
    exact hf (c :: r) (by simp) h
theorem top_valid {m : Nat} {f : List (List Int) → D → Bool} {g : D → Prop} {t : D} (ht : fineT m t g) {cs : List (List Int)} (hc : ∀ c ∈ cs, CaseOk m c) (hcs : cs ≠ []) (hf : ∀ p, g p → ∀ l, (∀ c ∈ l, CaseOk m c) → l ≠ [] → f l p = true → ∃ q, p = encP q ∧ ValidP m l q) (h : topB m cs t f = true) :
    ∃ q, t = encP q ∧ ValidP m cs q := by
  unfold topB at h
  split at h
  · rename_i s x rest
    obtain ⟨_, hx, hps⟩ := (ht.2 _ rfl).2 s x rest rfl
    split at h
    · rename_i hs
      unfold toldB at h
      split at h
      · rename_i c
        rw [(alikeC_enc (hc c (by simp))).mp h, hs]
        exact ⟨.told c, rfl, rfl⟩
      · cases h
    · split at h
      · rename_i hs
        unfold weighB at h
        split at h
        · rename_i p0 p1 p2
          rw [Bool.and_eq_true] at h
          obtain ⟨hw, h⟩ := h
          obtain ⟨w, rfl, _⟩ := isW_enc hw
          rw [decW_enc] at h
          simp only [Bool.and_eq_true] at h
          obtain ⟨h0, h1, h2⟩ := h
          have hp := (hps _ rfl).2 hs hw
          have sub : ∀ d, ∀ c ∈ byW w d cs, CaseOk m c := fun d c h => hc c (by_sub c h)
          have pv : ∀ d p, p ∈ [p0, p1, p2] → partB f cs w d p = true → ∃ q, p = encP q ∧ ValidP m (byW w d cs) q := fun d p hm hb => by
            unfold partB at hb
            cases hz : byW w d cs with
            | nil =>
              rw [hz] at hb
              cases p <;> simp at hb
              exact ⟨.none, rfl, rfl⟩
            | cons c r =>
              rw [hz] at hb
              exact hf p (hp p hm) (c :: r) (hz ▸ sub d) (by simp) hb
          obtain ⟨q0, rfl, v0⟩ := pv _ p0 (by simp) h0
          obtain ⟨q1, rfl, v1⟩ := pv _ p1 (by simp) h1
          obtain ⟨q2, rfl, v2⟩ := pv _ p2 (by simp) h2
          exact ⟨.weigh w q0 q1 q2, by rw [hs]; rfl, hcs, hw, hx, v0, v1, v2⟩
        · cases h
      · cases h
  · cases h
theorem planB_valid {m : Nat} : ∀ (k : Nat) (t : D), fineP m k t → ∀ (cs : List (List Int)), (∀ c ∈ cs, CaseOk m c) → cs ≠ [] → planB m k cs t = true → ∃ q, t = encP q ∧ ValidP m cs q
  | 0, t, ht, cs, hc, hcs, h => top_valid ht hc hcs (fun p hp => hp.elim) h
  | k + 1, t, ht, cs, hc, hcs, h => top_valid ht hc hcs (fun p hp l hl hne hb => planB_valid k p hp l hl hne hb) h
/-- .. and a plan passes -/
theorem part_pass {m : Nat} {f : List (List Int) → D → Bool} {cs : List (List Int)} {w : Wg} {d : Int} {q : Pl} (hv : ValidP m (byW w d cs) q) (hf : byW w d cs ≠ [] → f (byW w d cs) (encP q) = true) : partB f cs w d (encP q) = true := by
  unfold partB
  cases hb : byW w d cs with
  | nil =>
    rw [hb] at hv
    cases q with
    | none => rfl
    | told c => cases (show [] = [c] from hv)
    | weigh w l e r => exact absurd rfl (show ([] : List (List Int)) ≠ [] ∧ _ from hv).1
  | cons c r =>
    rw [hb] at hf
    exact hf (by simp)
theorem valid_pass {m : Nat} : ∀ (q : Pl) (k : Nat) (cs : List (List Int)), (∀ c ∈ cs, CaseOk m c) → cs ≠ [] → hgt q ≤ k → ValidP m cs q → planB m k cs (encP q) = true
  | .none, k, cs, _, hcs, _, h => absurd h hcs
  | .told c, k, cs, hc, hcs, _, h => by
    cases (show cs = [c] from h)
    have e : alikeC c (encC c) = true := (alikeC_enc (hc c (by simp))).mpr rfl
    have e2 : ∀ f, topB m [c] (encP (.told c)) f = true := fun f => by simp [topB, encP, toldB, e]
    cases k <;> exact e2 _
  | .weigh w l e r, 0, cs, _, _, hk, _ => by simp [hgt] at hk
  | .weigh w l e r, k + 1, cs, hc, hcs, hk, h => by
    obtain ⟨_, hw, _, v0, v1, v2⟩ := h
    simp only [hgt] at hk
    have sub : ∀ d, ∀ c ∈ byW w d cs, CaseOk m c := fun d c h => hc c (by_sub c h)
    have a0 := part_pass (f := planB m k) v0 fun hne => valid_pass l k _ (sub _) hne (by omega) v0
    have a1 := part_pass (f := planB m k) v1 fun hne => valid_pass e k _ (sub _) hne (by omega) v1
    have a2 := part_pass (f := planB m k) v2 fun hne => valid_pass r k _ (sub _) hne (by omega) v2
    show topB m cs (encP (.weigh w l e r)) (planB m k) = true
    simp only [topB, encP, if_neg told_ne, if_pos rfl, weighB, hw, decW_enc, a0, a1, a2, Bool.and_self, if_true]
/-- and may be looked at -/
theorem encW_ty (w : Wg) : tyD (encW w) ≠ none := by simp [encW, tyD]
theorem valid_fine {m : Nat} (hm : m ≤ 30) : ∀ (q : Pl) (k : Nat) (cs : List (List Int)), (∀ c ∈ cs, CaseOk m c) → hgt q ≤ k → ValidP m cs q → fineP m k (encP q)
  | .none, k, cs, _, _, _ => by
    have e : ∀ f, fineT m (encP .none) f := fun f => ⟨by simp [encP, tyD], fun xs e => by cases e⟩
    cases k <;> exact e _
  | .told c, k, cs, hc, _, h => by
    cases (show cs = [c] from h)
    have lc : lookW (encC c) := ⟨sh_up (encC_sh c) (by decide), fun us e => by
      cases e
      refine ⟨by rw [List.length_map, (hc c (by simp)).1]; omega, fun ys hy => ?_⟩
      obtain ⟨i, _, z⟩ := List.mem_map.mp hy
      cases z⟩
    have e : ∀ f, fineT m (encP (.told c)) f := fun f => ⟨by simp [encP, tyD], fun xs e => by
      cases e
      refine ⟨fun y hy => ?_, fun s x rest e => ?_⟩
      · simp only [List.mem_cons, List.not_mem_nil, or_false] at hy
        rcases hy with rfl | rfl <;> simp [tyD, encC]
      · cases e
        exact ⟨okTold, lc, fun ps e => by cases e⟩⟩
    cases k <;> exact e _
  | .weigh w l e r, 0, cs, _, hk, _ => by simp [hgt] at hk
  | .weigh w l e r, k + 1, cs, hc, hk, h => by
    obtain ⟨_, hw, hl, v0, v1, v2⟩ := h
    simp only [hgt] at hk
    have sub : ∀ d, ∀ c ∈ byW w d cs, CaseOk m c := fun d c h => hc c (by_sub c h)
    have f0 := valid_fine hm l k _ (sub _) (by omega) v0
    have f1 := valid_fine hm e k _ (sub _) (by omega) v1
    have f2 := valid_fine hm r k _ (sub _) (by omega) v2
    have tyf : ∀ k t, fineP m k t → tyD t ≠ none := fun k t h => by cases k <;> exact h.1
    refine ⟨by simp [encP, tyD], fun xs e' => ?_⟩
    cases e'
    refine ⟨fun y hy => ?_, fun s x rest e' => ?_⟩
    · simp only [List.mem_cons, List.not_mem_nil, or_false] at hy
      rcases hy with rfl | rfl | rfl <;> simp [tyD, encW]
    · cases e'
      refine ⟨okWeigh, hl, fun ps e' => ?_⟩
      cases e'
      have all : ∀ p ∈ [encP l, encP e, encP r], fineP m k p := fun p hp => by
        simp only [List.mem_cons, List.not_mem_nil, or_false] at hp
        rcases hp with rfl | rfl | rfl
        · exact f0
        · exact f1
        · exact f2
      exact ⟨fun p hp => tyf k p (all p hp), fun _ _ => all⟩
end W

set_option Elab.async false
set_option linter.all false
set_option maxRecDepth 100000
set_option maxHeartbeats 1000000
namespace W
open PySem PL
theorem told_told : dEq (.str sTold) (.str sTold) = .ok (.bool true) := by rw [dEq_str okTold okTold, decide_eq_true rfl]
theorem weigh_told : dEq (.str sWeigh) (.str sTold) = .ok (.bool false) := by rw [dEq_str okWeigh okTold, decide_eq_false told_ne]
theorem told_weigh : dEq (.str sTold) (.str sWeigh) = .ok (.bool false) := by rw [dEq_str okTold okWeigh, decide_eq_false (Ne.symm told_ne)]
theorem weigh_weigh : dEq (.str sWeigh) (.str sWeigh) = .ok (.bool true) := by rw [dEq_str okWeigh okWeigh, decide_eq_true rfl]
/-! ### how long a plan is -/
def isNone : Pl → Bool
  | .none => true
  | _ => false
theorem valid_none {m : Nat} {cs : List (List Int)} {q : Pl} (h : ValidP m cs q) (hcs : cs ≠ []) : isNone q = false := by
  cases q with
  | none => exact absurd h hcs
  | _ => rfl
def hgts (ps : List Pl) : List Int := (ps.filter fun q => !isNone q).map fun q => (hgt q : Int)
theorem notNone (q : Pl) : dIsNot (encP q) .none = .ok (.bool (!isNone q)) := by cases q <;> rfl
theorem len_parts {R1 : List D → PL.R D} {s0 : PL.Slot noObj} : ∀ (ps : List Pl), (∀ q ∈ ps, isNone q = false → R1 [encP q] = .ok (.int (hgt q))) →
    eachR (lcStep (gN 1) (tV (e2 dIsNot (eVar 1) (eC .none))) (eCall 1 R1 (aCons (eVar 1) aNil)) [s0, .no]) (ps.map encP) = .ok ((hgts ps).map PyData.int)
  | [], _ => rfl
  | q :: ps, h => by
    rw [List.map_cons, eachR, len_parts ps fun p hp => h p (List.mem_cons_of_mem _ hp)]
    unfold lcStep hgts
    have e := notNone q
    unfold dIsNot at e
    simp only [dIx_t0, dIx_t1, dIx_l0, dIx_l1, toItems, itemsOf, runF, runL, startE, endF, endL, R.bind_ok, R.bind_exc, R.bind_stuck, gSeq, gIf, gSet, gOwn, gRet, gRetL, gRetO, gDrop, gTgt, gT, gsC, gsN, gN, gFor, gApp, gExt, gFrz, gNil, gExc, eVar, eC, e1, e2, eA, aNil, aCons, eTup, eLst, eCall, lCall, listR, eChain, tV, tAndD, tOrD, tNotD, eAnd, eOr, eNot, eIf, eL, lDisp, lList, lRep, oNone, oSome, eSl, iSeq, iRng1, iRng2, iZipD, iEnumD, iRevD, lListRange, lLc, eSorted, eSortSet, eLenSet, eBor, tBor, tYesD, noE, toB, dCmp, dSub, dNeg, dInt, dLen, dIs, dIsNot, List.map_cons, List.map_nil, List.length_cons, List.length_nil, Nat.reduceAdd, Nat.reduceSub, Nat.reduceLeDiff, List.replicate, List.cons_append, List.nil_append, List.append_nil, List.getElem?_cons_zero, List.getElem?_cons_succ, List.set_cons_zero, List.set_cons_succ, if_true, if_false, reduceIte, Bool.not_true, Bool.not_false, Bool.false_eq_true, reduceCtorEq, notNone q, e]
    cases hq : isNone q
    · simp only [dIx_t0, dIx_t1, dIx_l0, dIx_l1, toItems, itemsOf, runF, runL, startE, endF, endL, R.bind_ok, R.bind_exc, R.bind_stuck, gSeq, gIf, gSet, gOwn, gRet, gRetL, gRetO, gDrop, gTgt, gT, gsC, gsN, gN, gFor, gApp, gExt, gFrz, gNil, gExc, eVar, eC, e1, e2, eA, aNil, aCons, eTup, eLst, eCall, lCall, listR, eChain, tV, tAndD, tOrD, tNotD, eAnd, eOr, eNot, eIf, eL, lDisp, lList, lRep, oNone, oSome, eSl, iSeq, iRng1, iRng2, iZipD, iEnumD, iRevD, lListRange, lLc, eSorted, eSortSet, eLenSet, eBor, tBor, tYesD, noE, toB, dCmp, dSub, dNeg, dInt, dLen, dIs, dIsNot, List.map_cons, List.map_nil, List.length_cons, List.length_nil, Nat.reduceAdd, Nat.reduceSub, Nat.reduceLeDiff, List.replicate, List.cons_append, List.nil_append, List.append_nil, List.getElem?_cons_zero, List.getElem?_cons_succ, List.set_cons_zero, List.set_cons_succ, if_true, if_false, reduceIte, Bool.not_true, Bool.not_false, Bool.false_eq_true, reduceCtorEq, h q (List.mem_cons_self ..) hq, List.filter_cons, hq]
    · simp only [dIx_t0, dIx_t1, dIx_l0, dIx_l1, toItems, itemsOf, runF, runL, startE, endF, endL, R.bind_ok, R.bind_exc, R.bind_stuck, gSeq, gIf, gSet, gOwn, gRet, gRetL, gRetO, gDrop, gTgt, gT, gsC, gsN, gN, gFor, gApp, gExt, gFrz, gNil, gExc, eVar, eC, e1, e2, eA, aNil, aCons, eTup, eLst, eCall, lCall, listR, eChain, tV, tAndD, tOrD, tNotD, eAnd, eOr, eNot, eIf, eL, lDisp, lList, lRep, oNone, oSome, eSl, iSeq, iRng1, iRng2, iZipD, iEnumD, iRevD, lListRange, lLc, eSorted, eSortSet, eLenSet, eBor, tBor, tYesD, noE, toB, dCmp, dSub, dNeg, dInt, dLen, dIs, dIsNot, List.map_cons, List.map_nil, List.length_cons, List.length_nil, Nat.reduceAdd, Nat.reduceSub, Nat.reduceLeDiff, List.replicate, List.cons_append, List.nil_append, List.append_nil, List.getElem?_cons_zero, List.getElem?_cons_succ, List.set_cons_zero, List.set_cons_succ, if_true, if_false, reduceIte, Bool.not_true, Bool.not_false, Bool.false_eq_true, reduceCtorEq, List.filter_cons, hq]
theorem maxI_le : ∀ (r : List Int) (n b : Int), n ≤ b → (∀ x ∈ r, x ≤ b) → maxI n r ≤ b
  | [], n, b, h, _ => h
  | x :: r, n, b, h, hr => by
    unfold maxI
    refine maxI_le r _ b ?_ fun y hy => hr y (List.mem_cons_of_mem _ hy)
    have := hr x (List.mem_cons_self ..)
    split <;> omega
theorem maxI_ge : ∀ (r : List Int) (n : Int), n ≤ maxI n r ∧ ∀ x ∈ r, x ≤ maxI n r
  | [], n => ⟨Int.le_refl _, by simp⟩
  | x :: r, n => by
    unfold maxI
    obtain ⟨h1, h2⟩ := maxI_ge r (if n < x then x else n)
    have h3 : n ≤ (if n < x then x else n) ∧ x ≤ (if n < x then x else n) := by split <;> omega
    refine ⟨by omega, fun y hy => ?_⟩
    rcases List.mem_cons.mp hy with rfl | hy
    · omega
    · exact h2 y hy
theorem maxI_eq {n : Int} {r : List Int} {b : Int} (h1 : ∀ x ∈ n :: r, x ≤ b) (h2 : b ∈ n :: r) : maxI n r = b := by
  have a := maxI_le r n b (h1 n (List.mem_cons_self ..)) fun x hx => h1 x (List.mem_cons_of_mem _ hx)
  obtain ⟨g1, g2⟩ := maxI_ge r n
  rcases List.mem_cons.mp h2 with rfl | h2
  · omega
  · have := g2 b h2; omega
theorem dMax_eq {l : List Int} {b : Int} (h1 : ∀ x ∈ l, x ≤ b) (h2 : b ∈ l) : dMax [.list (l.map PyData.int)] = .ok (.int b) := by
  cases l with
  | nil => simp at h2
  | cons n r => simp only [dMax, intsOf_map, maxI_eq h1 h2]
theorem hgt_none {q : Pl} (h : isNone q = true) : hgt q = 0 := by cases q <;> first | rfl | cases h
theorem hgts_max {l e r : Pl} (h : isNone l = false ∨ isNone e = false ∨ isNone r = false) : dMax [.list ((hgts [l, e, r]).map PyData.int)] = .ok (.int (max (hgt l) (max (hgt e) (hgt r)) : Nat)) := by
  refine dMax_eq (fun x hx => ?_) ?_
  · obtain ⟨q, hq, rfl⟩ := List.mem_map.mp hx
    have hq := (List.mem_filter.mp hq).1
    simp only [List.mem_cons, List.not_mem_nil, or_false] at hq
    rcases hq with rfl | rfl | rfl <;> omega
  · -- the greatest is that of a part that is there
    have pick1 : ∀ q ∈ [l, e, r], isNone q = false → hgt q = max (hgt l) (max (hgt e) (hgt r)) → ((max (hgt l) (max (hgt e) (hgt r)) : Nat) : Int) ∈ hgts [l, e, r] := fun q hm hn e => by
      rw [← e]
      exact List.mem_map.mpr ⟨q, List.mem_filter.mpr ⟨hm, by rw [hn]; rfl⟩, rfl⟩
    have z : ∀ q, isNone q = false ∨ hgt q = 0 := fun q => by cases q <;> simp [isNone, hgt]
    have fall : max (hgt l) (max (hgt e) (hgt r)) = 0 → ((max (hgt l) (max (hgt e) (hgt r)) : Nat) : Int) ∈ hgts [l, e, r] := fun h0 => by
      rcases h with h | h | h
      · exact pick1 l (by simp) h (by omega)
      · exact pick1 e (by simp) h (by omega)
      · exact pick1 r (by simp) h (by omega)
    rcases (by omega : hgt l = max (hgt l) (max (hgt e) (hgt r)) ∨ hgt e = max (hgt l) (max (hgt e) (hgt r)) ∨ hgt r = max (hgt l) (max (hgt e) (hgt r))) with k | k | k
    · rcases z l with a | a
      · exact pick1 l (by simp) a k
      · exact fall (by omega)
    · rcases z e with a | a
      · exact pick1 e (by simp) a k
      · exact fall (by omega)
    · rcases z r with a | a
      · exact pick1 r (by simp) a k
      · exact fall (by omega)
theorem length_ok {m : Nat} {F : Nat → List D → PL.R D} (hF : ∀ n, F (n + 1) = runF 2 (g_length_of (F n))) : ∀ (q : Pl) (n : Nat) (cs : List (List Int)), cs ≠ [] → hgt q + 1 ≤ n → ValidP m cs q → F n [encP q] = .ok (.int (hgt q))
  | .none, n, cs, hcs, _, h => absurd h hcs
  | .told c, n, cs, _, hn, _ => by
    obtain ⟨n, rfl⟩ : ∃ n', n = n' + 1 := ⟨n - 1, by omega⟩
    rw [hF]
    unfold g_length_of
    simp only [dIx_t0, dIx_t1, dIx_l0, dIx_l1, toItems, itemsOf, runF, runL, startE, endF, endL, R.bind_ok, R.bind_exc, R.bind_stuck, gSeq, gIf, gSet, gOwn, gRet, gRetL, gRetO, gDrop, gTgt, gT, gsC, gsN, gN, gFor, gApp, gExt, gFrz, gNil, gExc, eVar, eC, e1, e2, eA, aNil, aCons, eTup, eLst, eCall, lCall, listR, eChain, tV, tAndD, tOrD, tNotD, eAnd, eOr, eNot, eIf, eL, lDisp, lList, lRep, oNone, oSome, eSl, iSeq, iRng1, iRng2, iZipD, iEnumD, iRevD, lListRange, lLc, eSorted, eSortSet, eLenSet, eBor, tBor, tYesD, noE, toB, dCmp, dSub, dNeg, dInt, dLen, dIs, dIsNot, List.map_cons, List.map_nil, List.length_cons, List.length_nil, Nat.reduceAdd, Nat.reduceSub, Nat.reduceLeDiff, List.replicate, List.cons_append, List.nil_append, List.append_nil, List.getElem?_cons_zero, List.getElem?_cons_succ, List.set_cons_zero, List.set_cons_succ, if_true, if_false, reduceIte, Bool.not_true, Bool.not_false, Bool.false_eq_true, reduceCtorEq, encP, told_told]
    rfl
  | .weigh w l e r, n, cs, hcs, hn, h => by
    obtain ⟨n, rfl⟩ : ∃ n', n = n' + 1 := ⟨n - 1, by omega⟩
    simp only [hgt] at hn
    obtain ⟨_, hw, hlw, v0, v1, v2⟩ := h
    have some1 : isNone l = false ∨ isNone e = false ∨ isNone r = false := by
      obtain ⟨c, hc⟩ := List.exists_mem_of_ne_nil cs hcs
      have hb := mem_by (w := w) hc
      rcases cm_val w c with h | h | h <;> rw [h] at hb
      · exact .inl (valid_none v0 (List.ne_nil_of_mem hb))
      · exact .inr (.inl (valid_none v1 (List.ne_nil_of_mem hb)))
      · exact .inr (.inr (valid_none v2 (List.ne_nil_of_mem hb)))
    have parts := len_parts (R1 := F n) (s0 := .val (encP (.weigh w l e r))) [l, e, r] fun q hq hn' => by
      simp only [List.mem_cons, List.not_mem_nil, or_false] at hq
      have ne : ∀ {d : Int} {q : Pl}, ValidP m (byW w d cs) q → isNone q = false → byW w d cs ≠ [] := fun {d q} v z e => by
        rw [e] at v
        cases q with
        | none => cases z
        | told c => cases (show [] = [c] from v)
        | weigh w l e r => exact (show ([] : List (List Int)) ≠ [] ∧ _ from v).1 rfl
      rcases hq with rfl | rfl | rfl
      · exact length_ok hF _ n _ (ne v0 hn') (by omega) v0
      · exact length_ok hF _ n _ (ne v1 hn') (by omega) v1
      · exact length_ok hF _ n _ (ne v2 hn') (by omega) v2
    have key : c_length_of_1 (F n) [.val (encP (.weigh w l e r)), .no] = .ok ((hgts [l, e, r]).map PyData.int) := by
      unfold c_length_of_1
      simp only [dIx_t0, dIx_t1, dIx_l0, dIx_l1, toItems, itemsOf, runF, runL, startE, endF, endL, R.bind_ok, R.bind_exc, R.bind_stuck, gSeq, gIf, gSet, gOwn, gRet, gRetL, gRetO, gDrop, gTgt, gT, gsC, gsN, gN, gFor, gApp, gExt, gFrz, gNil, gExc, eVar, eC, e1, e2, eA, aNil, aCons, eTup, eLst, eCall, lCall, listR, eChain, tV, tAndD, tOrD, tNotD, eAnd, eOr, eNot, eIf, eL, lDisp, lList, lRep, oNone, oSome, eSl, iSeq, iRng1, iRng2, iZipD, iEnumD, iRevD, lListRange, lLc, eSorted, eSortSet, eLenSet, eBor, tBor, tYesD, noE, toB, dCmp, dSub, dNeg, dInt, dLen, dIs, dIsNot, List.map_cons, List.map_nil, List.length_cons, List.length_nil, Nat.reduceAdd, Nat.reduceSub, Nat.reduceLeDiff, List.replicate, List.cons_append, List.nil_append, List.append_nil, List.getElem?_cons_zero, List.getElem?_cons_succ, List.set_cons_zero, List.set_cons_succ, if_true, if_false, reduceIte, Bool.not_true, Bool.not_false, Bool.false_eq_true, reduceCtorEq, encP, ix2]
      rw [if_pos ⟨by decide, rfl⟩]
      exact noE_of parts
    rw [hF]
    unfold g_length_of
    have e1' : (encP (.weigh w l e r)) = .tuple [.str sWeigh, encW w, .tuple [encP l, encP e, encP r]] := rfl
    rw [e1'] at key ⊢
    simp only [dIx_t0, dIx_t1, dIx_l0, dIx_l1, toItems, itemsOf, runF, runL, startE, endF, endL, R.bind_ok, R.bind_exc, R.bind_stuck, gSeq, gIf, gSet, gOwn, gRet, gRetL, gRetO, gDrop, gTgt, gT, gsC, gsN, gN, gFor, gApp, gExt, gFrz, gNil, gExc, eVar, eC, e1, e2, eA, aNil, aCons, eTup, eLst, eCall, lCall, listR, eChain, tV, tAndD, tOrD, tNotD, eAnd, eOr, eNot, eIf, eL, lDisp, lList, lRep, oNone, oSome, eSl, iSeq, iRng1, iRng2, iZipD, iEnumD, iRevD, lListRange, lLc, eSorted, eSortSet, eLenSet, eBor, tBor, tYesD, noE, toB, dCmp, dSub, dNeg, dInt, dLen, dIs, dIsNot, List.map_cons, List.map_nil, List.length_cons, List.length_nil, Nat.reduceAdd, Nat.reduceSub, Nat.reduceLeDiff, List.replicate, List.cons_append, List.nil_append, List.append_nil, List.getElem?_cons_zero, List.getElem?_cons_succ, List.set_cons_zero, List.set_cons_succ, if_true, if_false, reduceIte, Bool.not_true, Bool.not_false, Bool.false_eq_true, reduceCtorEq, weigh_told, key, hgts_max some1, dAdd]
    simp only [hgt]
    rfl
end W

set_option Elab.async false
set_option linter.all false
set_option maxRecDepth 100000
set_option maxHeartbeats 1000000
namespace W
open PySem PL
/-! ### a plan, walked -/
def kid (l e r : Pl) (d : Int) : Pl := if d = -1 then l else if d = 0 then e else r
def walkP : Pl → List Int → List (Wg × Int)
  | .weigh w l e r, c => (w, cm w c) :: (if cm w c = -1 then walkP l c else if cm w c = 0 then walkP e c else walkP r c)
  | _, _ => []
def endP : Pl → List Int → Pl
  | .weigh w l e r, c => if cm w c = -1 then endP l c else if cm w c = 0 then endP e c else endP r c
  | p, _ => p
def encS (x : Wg × Int) : D := .tuple [encW x.1, .int x.2]
theorem kid_ix (l e r : Pl) {d : Int} (h : d = -1 ∨ d = 0 ∨ d = 1) : dIx (.tuple [encP l, encP e, encP r]) (.int (d + 1)) = .ok (encP (kid l e r d)) := by
  rcases h with rfl | rfl | rfl <;> rfl
theorem kid_valid {m : Nat} {cs : List (List Int)} {w : Wg} {l e r : Pl} (v0 : ValidP m (byW w (-1) cs) l) (v1 : ValidP m (byW w 0 cs) e) (v2 : ValidP m (byW w 1 cs) r) (c : List Int) : ValidP m (byW w (cm w c) cs) (kid l e r (cm w c)) := by
  rcases cm_val w c with h | h | h <;> rw [h] <;> simp only [kid] <;> first | exact v0 | exact v1 | exact v2
theorem walk_weigh (w : Wg) (l e r : Pl) (c : List Int) : walkP (.weigh w l e r) c = (w, cm w c) :: walkP (kid l e r (cm w c)) c := by
  rcases cm_val w c with h | h | h <;> simp [walkP, kid, h]
theorem walk_len (c : List Int) : ∀ q, (walkP q c).length ≤ hgt q
  | .none => by simp [walkP, hgt]
  | .told _ => by simp [walkP, hgt]
  | .weigh w l e r => by
    have h0 := walk_len c l
    have h1 := walk_len c e
    have h2 := walk_len c r
    simp only [walkP, hgt, List.length_cons]
    split
    · omega
    · split <;> omega
theorem walk_max {m : Nat} : ∀ (q : Pl) (cs : List (List Int)), cs ≠ [] → ValidP m cs q → ∃ c ∈ cs, (walkP q c).length = hgt q
  | .none, cs, hcs, h => absurd h hcs
  | .told c, cs, hcs, h => by
    obtain ⟨d, hd⟩ := List.exists_mem_of_ne_nil cs hcs
    exact ⟨d, hd, rfl⟩
  | .weigh w l e r, cs, hcs, h => by
    obtain ⟨_, _, _, v0, v1, v2⟩ := h
    -- a part that is there and as high as can be
    have go : ∀ d q, ValidP m (byW w d cs) q → kid l e r d = q → byW w d cs ≠ [] → hgt q = max (hgt l) (max (hgt e) (hgt r)) → ∃ c ∈ cs, (walkP (.weigh w l e r) c).length = hgt (.weigh w l e r) := fun d q v hk hne hq => by
      have hw' : ∃ c ∈ byW w d cs, (walkP q c).length = hgt q := by
        by_cases hd : d = -1
        · subst hd
          have : l = q := by simpa [kid] using hk
          subst this
          exact walk_max l _ hne v
        · by_cases hd0 : d = 0
          · subst hd0
            have : e = q := by simpa [kid] using hk
            subst this
            exact walk_max e _ hne v
          · have : r = q := by simpa [kid, hd, hd0] using hk
            subst this
            exact walk_max r _ hne v
      obtain ⟨c, hc, hl⟩ := hw'
      have hm := List.mem_filter.mp hc
      have hcm : cm w c = d := of_decide_eq_true hm.2
      refine ⟨c, hm.1, ?_⟩
      rw [walk_weigh, List.length_cons, hcm, hk, hl, hgt, hq]
      omega
    have z : ∀ {d : Int} {q : Pl}, ValidP m (byW w d cs) q → byW w d cs = [] → hgt q = 0 := fun {d q} v e => by
      rw [e] at v
      cases q with
      | none => rfl
      | told c => rfl
      | weigh w l e r => exact absurd rfl (show ([] : List (List Int)) ≠ [] ∧ _ from v).1
    have fall : max (hgt l) (max (hgt e) (hgt r)) = 0 → ∃ c ∈ cs, (walkP (.weigh w l e r) c).length = hgt (.weigh w l e r) := fun h0 => by
      obtain ⟨c, hc⟩ := List.exists_mem_of_ne_nil cs hcs
      have hb := List.ne_nil_of_mem (mem_by (w := w) hc)
      rcases cm_val w c with h | h | h <;> rw [h] at hb
      · exact go (-1) l v0 rfl hb (by omega)
      · exact go 0 e v1 rfl hb (by omega)
      · exact go 1 r v2 rfl hb (by omega)
    rcases (by omega : hgt l = max (hgt l) (max (hgt e) (hgt r)) ∨ hgt e = max (hgt l) (max (hgt e) (hgt r)) ∨ hgt r = max (hgt l) (max (hgt e) (hgt r))) with k | k | k
    · by_cases hb : byW w (-1) cs = []
      · exact fall (by rw [← k]; exact z v0 hb)
      · exact go (-1) l v0 rfl hb k
    · by_cases hb : byW w 0 cs = []
      · exact fall (by rw [← k]; exact z v1 hb)
      · exact go 0 e v1 rfl hb k
    · by_cases hb : byW w 1 cs = []
      · exact fall (by rw [← k]; exact z v2 hb)
      · exact go 1 r v2 rfl hb k
theorem whileF_step {t : Env noObj → PL.R Bool} {g : GS noObj} {n : Nat} {ρ ρ2 : Env noObj} (h1 : t ρ = .ok true) (h2 : g ρ = .ok (.nx, ρ2)) : whileF t g (n + 1) ρ = whileF t g n ρ2 := by
  rw [whileF, h1, R.bind_ok, if_pos rfl, h2]
  rfl
theorem whileF_stop {t : Env noObj → PL.R Bool} {g : GS noObj} {n : Nat} {ρ : Env noObj} (h1 : t ρ = .ok false) : whileF t g (n + 1) ρ = .ok (.nx, ρ) := by
  rw [whileF, h1, R.bind_ok, if_neg (by decide)]
abbrev wTest : Env noObj → PL.R Bool := tV (e2 dEq (e2 dIx (eVar 0) (eC (.int 0))) (eC (.str sWeigh)))
theorem wtest_weigh (w : Wg) (l e r : Pl) (ρ : Env noObj) : wTest (.val (encP (.weigh w l e r)) :: ρ) = .ok true := by
  unfold wTest
  simp only [dIx_t0, dIx_t1, dIx_l0, dIx_l1, toItems, itemsOf, runF, runL, startE, endF, endL, R.bind_ok, R.bind_exc, R.bind_stuck, gSeq, gIf, gSet, gOwn, gRet, gRetL, gRetO, gDrop, gTgt, gT, gsC, gsN, gN, gFor, gApp, gExt, gFrz, gNil, gExc, eVar, eC, e1, e2, eA, aNil, aCons, eTup, eLst, eCall, lCall, listR, eChain, tV, tAndD, tOrD, tNotD, eAnd, eOr, eNot, eIf, eL, lDisp, lList, lRep, oNone, oSome, eSl, iSeq, iRng1, iRng2, iZipD, iEnumD, iRevD, lListRange, lLc, eSorted, eSortSet, eLenSet, eBor, tBor, tYesD, noE, toB, dCmp, dSub, dNeg, dInt, dLen, dIs, dIsNot, List.map_cons, List.map_nil, List.length_cons, List.length_nil, Nat.reduceAdd, Nat.reduceSub, Nat.reduceLeDiff, List.replicate, List.cons_append, List.nil_append, List.append_nil, List.getElem?_cons_zero, List.getElem?_cons_succ, List.set_cons_zero, List.set_cons_succ, if_true, if_false, reduceIte, Bool.not_true, Bool.not_false, Bool.false_eq_true, reduceCtorEq, encP, weigh_weigh]
theorem wtest_told (c : List Int) (ρ : Env noObj) : wTest (.val (encP (.told c)) :: ρ) = .ok false := by
  unfold wTest
  simp only [dIx_t0, dIx_t1, dIx_l0, dIx_l1, toItems, itemsOf, runF, runL, startE, endF, endL, R.bind_ok, R.bind_exc, R.bind_stuck, gSeq, gIf, gSet, gOwn, gRet, gRetL, gRetO, gDrop, gTgt, gT, gsC, gsN, gN, gFor, gApp, gExt, gFrz, gNil, gExc, eVar, eC, e1, e2, eA, aNil, aCons, eTup, eLst, eCall, lCall, listR, eChain, tV, tAndD, tOrD, tNotD, eAnd, eOr, eNot, eIf, eL, lDisp, lList, lRep, oNone, oSome, eSl, iSeq, iRng1, iRng2, iZipD, iEnumD, iRevD, lListRange, lLc, eSorted, eSortSet, eLenSet, eBor, tBor, tYesD, noE, toB, dCmp, dSub, dNeg, dInt, dLen, dIs, dIsNot, List.map_cons, List.map_nil, List.length_cons, List.length_nil, Nat.reduceAdd, Nat.reduceSub, Nat.reduceLeDiff, List.replicate, List.cons_append, List.nil_append, List.append_nil, List.getElem?_cons_zero, List.getElem?_cons_succ, List.set_cons_zero, List.set_cons_succ, if_true, if_false, reduceIte, Bool.not_true, Bool.not_false, Bool.false_eq_true, reduceCtorEq, encP, told_weigh]
theorem walked_step {m : Nat} {w : Wg} {c : List Int} (hw : WgOk m w) (hc : CaseOk m c) (l e r : Pl) (acc : List D) (ha : acc.length < 100000) (s3 : PL.Slot noObj) :
    g_walked_L1 [.val (encP (.weigh w l e r)), .val (encC c), .own acc, s3] = .ok (.nx, [.val (encP (kid l e r (cm w c))), .val (encC c), .own (acc ++ [encS (w, cm w c)]), .val (.int (cm w c))]) := by
  unfold g_walked_L1
  have d1 : dAdd (.int (cm w c)) (.int 1) = .ok (.int (cm w c + 1)) := rfl
  simp only [dIx_t0, dIx_t1, dIx_l0, dIx_l1, toItems, itemsOf, runF, runL, startE, endF, endL, R.bind_ok, R.bind_exc, R.bind_stuck, gSeq, gIf, gSet, gOwn, gRet, gRetL, gRetO, gDrop, gTgt, gT, gsC, gsN, gN, gFor, gApp, gExt, gFrz, gNil, gExc, eVar, eC, e1, e2, eA, aNil, aCons, eTup, eLst, eCall, lCall, listR, eChain, tV, tAndD, tOrD, tNotD, eAnd, eOr, eNot, eIf, eL, lDisp, lList, lRep, oNone, oSome, eSl, iSeq, iRng1, iRng2, iZipD, iEnumD, iRevD, lListRange, lLc, eSorted, eSortSet, eLenSet, eBor, tBor, tYesD, noE, toB, dCmp, dSub, dNeg, dInt, dLen, dIs, dIsNot, List.map_cons, List.map_nil, List.length_cons, List.length_nil, Nat.reduceAdd, Nat.reduceSub, Nat.reduceLeDiff, List.replicate, List.cons_append, List.nil_append, List.append_nil, List.getElem?_cons_zero, List.getElem?_cons_succ, List.set_cons_zero, List.set_cons_succ, if_true, if_false, reduceIte, Bool.not_true, Bool.not_false, Bool.false_eq_true, reduceCtorEq, show encP (.weigh w l e r) = .tuple [.str sWeigh, encW w, .tuple [encP l, encP e, encP r]] from rfl, came_eq hw hc, ha, ix2, d1, kid_ix l e r (cm_val w c)]
  rfl
theorem lwalk_step {m : Nat} {w : Wg} {c : List Int} (hw : WgOk m w) (hc : CaseOk m c) (l e r : Pl) (acc : List D) (ha : acc.length < 100000) :
    g__law_walk_L1 [.val (encP (.weigh w l e r)), .val (encC c), .own acc] = .ok (.nx, [.val (encP (kid l e r (cm w c))), .val (encC c), .own (acc ++ [encS (w, cm w c)])]) := by
  unfold g__law_walk_L1
  have d1 : dAdd (.int (cm w c)) (.int 1) = .ok (.int (cm w c + 1)) := rfl
  have d2 : dIx (.list (acc ++ [.tuple [encW w, .int (cm w c)]])) (.int (-1)) = .ok (.tuple [encW w, .int (cm w c)]) := by
    have hl : (acc ++ [PyData.tuple [encW w, .int (cm w c)]]).length = acc.length + 1 := by simp
    simp only [dIx, itemsOf, L2.atI, L2.ixN]
    rw [if_neg (by decide), if_pos (by rw [hl]; omega), Option.bind_some]
    have e : (-1 + ((acc ++ [PyData.tuple [encW w, .int (cm w c)]]).length : Int)).toNat = acc.length := by rw [hl]; omega
    rw [e, List.getElem?_append_right (Nat.le_refl _), Nat.sub_self]
    rfl
  simp only [dIx_t0, dIx_t1, dIx_l0, dIx_l1, toItems, itemsOf, runF, runL, startE, endF, endL, R.bind_ok, R.bind_exc, R.bind_stuck, gSeq, gIf, gSet, gOwn, gRet, gRetL, gRetO, gDrop, gTgt, gT, gsC, gsN, gN, gFor, gApp, gExt, gFrz, gNil, gExc, eVar, eC, e1, e2, eA, aNil, aCons, eTup, eLst, eCall, lCall, listR, eChain, tV, tAndD, tOrD, tNotD, eAnd, eOr, eNot, eIf, eL, lDisp, lList, lRep, oNone, oSome, eSl, iSeq, iRng1, iRng2, iZipD, iEnumD, iRevD, lListRange, lLc, eSorted, eSortSet, eLenSet, eBor, tBor, tYesD, noE, toB, dCmp, dSub, dNeg, dInt, dLen, dIs, dIsNot, List.map_cons, List.map_nil, List.length_cons, List.length_nil, Nat.reduceAdd, Nat.reduceSub, Nat.reduceLeDiff, List.replicate, List.cons_append, List.nil_append, List.append_nil, List.getElem?_cons_zero, List.getElem?_cons_succ, List.set_cons_zero, List.set_cons_succ, if_true, if_false, reduceIte, Bool.not_true, Bool.not_false, Bool.false_eq_true, reduceCtorEq, show encP (.weigh w l e r) = .tuple [.str sWeigh, encW w, .tuple [encP l, encP e, encP r]] from rfl, lcame_eq hw hc, ha, ix2, noObjs_true, Int.reduceNeg, d2, d1, scal1, kid_ix l e r (cm_val w c)]
  rfl
theorem walked_loop {m : Nat} {c : List Int} (hc : CaseOk m c) : ∀ (q : Pl) (n : Nat) (cs : List (List Int)) (acc : List D) (s3 : PL.Slot noObj), c ∈ cs → hgt q + 1 ≤ n → ValidP m cs q → acc.length + hgt q < 1000 →
    ∃ (q' : Pl) (t3 : PL.Slot noObj), whileF wTest g_walked_L1 n [.val (encP q), .val (encC c), .own acc, s3] = .ok (.nx, [.val (encP q'), .val (encC c), .own (acc ++ (walkP q c).map encS), t3])
  | q, n, cs, acc, s3, hm, hn, hv, ha => by
    obtain ⟨n, rfl⟩ : ∃ n', n = n' + 1 := ⟨n - 1, by omega⟩
    match q, hn, hv, ha with
    | .none, _, hv, _ => exact absurd hv (List.ne_nil_of_mem hm)
    | .told d, _, _, _ => exact ⟨.told d, s3, by rw [whileF_stop (wtest_told d _)]; simp [walkP]⟩
    | .weigh w l e r, hn, hv, ha =>
      obtain ⟨_, hw, hl, v0, v1, v2⟩ := hv
      have wok := isW_ok hw hl
      simp only [hgt] at hn ha
      have kv := kid_valid v0 v1 v2 c
      have kh : hgt (kid l e r (cm w c)) ≤ max (hgt l) (max (hgt e) (hgt r)) := by unfold kid; split <;> (try split) <;> omega
      have hla : (acc ++ [encS (w, cm w c)]).length = acc.length + 1 := by simp
      rw [whileF_step (wtest_weigh w l e r _) (walked_step wok hc l e r acc (by omega) s3)]
      have rec' : ∃ (q' : Pl) (t3 : PL.Slot noObj), whileF wTest g_walked_L1 n [.val (encP (kid l e r (cm w c))), .val (encC c), .own (acc ++ [encS (w, cm w c)]), .val (.int (cm w c))] = .ok (.nx, [.val (encP q'), .val (encC c), .own ((acc ++ [encS (w, cm w c)]) ++ (walkP (kid l e r (cm w c)) c).map encS), t3]) := by
        rcases cm_val w c with h | h | h
        · rw [h] at kv kh hla ⊢
          exact walked_loop hc l n _ _ _ (h ▸ mem_by hm) (by simp only [kid] at kh; omega) kv (by rw [hla]; omega)
        · rw [h] at kv kh hla ⊢
          exact walked_loop hc e n _ _ _ (h ▸ mem_by hm) (by simp only [kid] at kh; omega) kv (by rw [hla]; omega)
        · rw [h] at kv kh hla ⊢
          exact walked_loop hc r n _ _ _ (h ▸ mem_by hm) (by simp only [kid] at kh; omega) kv (by rw [hla]; omega)
      obtain ⟨q', t3, he⟩ := rec'
      refine ⟨q', t3, ?_⟩
      rw [he, walk_weigh, List.map_cons, List.append_assoc]
      rfl
end W

set_option Elab.async false
set_option linter.all false
set_option maxRecDepth 100000
set_option maxHeartbeats 1000000
namespace W
open PySem PL
theorem lwalk_loop {m : Nat} {c : List Int} (hc : CaseOk m c) : ∀ (q : Pl) (n : Nat) (cs : List (List Int)) (acc : List D), c ∈ cs → hgt q + 1 ≤ n → ValidP m cs q → acc.length + hgt q < 1000 →
    ∃ (q' : Pl), whileF wTest g__law_walk_L1 n [.val (encP q), .val (encC c), .own acc] = .ok (.nx, [.val (encP q'), .val (encC c), .own (acc ++ (walkP q c).map encS)])
  | q, n, cs, acc, hm, hn, hv, ha => by
    obtain ⟨n, rfl⟩ : ∃ n', n = n' + 1 := ⟨n - 1, by omega⟩
    match q, hn, hv, ha with
    | .none, _, hv, _ => exact absurd hv (List.ne_nil_of_mem hm)
    | .told d, _, _, _ => exact ⟨.told d, by rw [whileF_stop (wtest_told d _)]; simp [walkP]⟩
    | .weigh w l e r, hn, hv, ha =>
      obtain ⟨_, hw, hl, v0, v1, v2⟩ := hv
      have wok := isW_ok hw hl
      simp only [hgt] at hn ha
      have kv := kid_valid v0 v1 v2 c
      have kh : hgt (kid l e r (cm w c)) ≤ max (hgt l) (max (hgt e) (hgt r)) := by unfold kid; split <;> (try split) <;> omega
      have hla : (acc ++ [encS (w, cm w c)]).length = acc.length + 1 := by simp
      rw [whileF_step (wtest_weigh w l e r _) (lwalk_step wok hc l e r acc (by omega))]
      have rec' : ∃ (q' : Pl), whileF wTest g__law_walk_L1 n [.val (encP (kid l e r (cm w c))), .val (encC c), .own (acc ++ [encS (w, cm w c)])] = .ok (.nx, [.val (encP q'), .val (encC c), .own ((acc ++ [encS (w, cm w c)]) ++ (walkP (kid l e r (cm w c)) c).map encS)]) := by
        rcases cm_val w c with h | h | h
        · rw [h] at kv kh hla ⊢
          exact lwalk_loop hc l n _ _ (h ▸ mem_by hm) (by simp only [kid] at kh; omega) kv (by rw [hla]; omega)
        · rw [h] at kv kh hla ⊢
          exact lwalk_loop hc e n _ _ (h ▸ mem_by hm) (by simp only [kid] at kh; omega) kv (by rw [hla]; omega)
        · rw [h] at kv kh hla ⊢
          exact lwalk_loop hc r n _ _ (h ▸ mem_by hm) (by simp only [kid] at kh; omega) kv (by rw [hla]; omega)
      obtain ⟨q', he⟩ := rec'
      refine ⟨q', ?_⟩
      rw [he, walk_weigh, List.map_cons, List.append_assoc]
      rfl
def walkD (q : Pl) (c : List Int) : List D := (walkP q c).map encS
theorem walked_eq {m : Nat} {c : List Int} (hc : CaseOk m c) {q : Pl} {cs : List (List Int)} (hm : c ∈ cs) (hq : hgt q ≤ 39) (hv : ValidP m cs q) : F_walked [encP q, encC c] = .ok (walkD q c) := by
  obtain ⟨q', t3, e⟩ := walked_loop hc q 60 cs [] .no hm (by omega) hv (by simp; omega)
  rw [List.nil_append] at e
  unfold F_walked g_walked
  simp only [dIx_t0, dIx_t1, dIx_l0, dIx_l1, toItems, itemsOf, runF, runL, startE, endF, endL, R.bind_ok, R.bind_exc, R.bind_stuck, gSeq, gIf, gSet, gOwn, gRet, gRetL, gRetO, gDrop, gTgt, gT, gsC, gsN, gN, gFor, gApp, gExt, gFrz, gNil, gExc, eVar, eC, e1, e2, eA, aNil, aCons, eTup, eLst, eCall, lCall, listR, eChain, tV, tAndD, tOrD, tNotD, eAnd, eOr, eNot, eIf, eL, lDisp, lList, lRep, oNone, oSome, eSl, iSeq, iRng1, iRng2, iZipD, iEnumD, iRevD, lListRange, lLc, eSorted, eSortSet, eLenSet, eBor, tBor, tYesD, noE, toB, dCmp, dSub, dNeg, dInt, dLen, dIs, dIsNot, List.map_cons, List.map_nil, List.length_cons, List.length_nil, Nat.reduceAdd, Nat.reduceSub, Nat.reduceLeDiff, List.replicate, List.cons_append, List.nil_append, List.append_nil, List.getElem?_cons_zero, List.getElem?_cons_succ, List.set_cons_zero, List.set_cons_succ, if_true, if_false, reduceIte, Bool.not_true, Bool.not_false, Bool.false_eq_true, reduceCtorEq, e]
  rfl
theorem lwalk_eq {m : Nat} {c : List Int} (hc : CaseOk m c) {q : Pl} {cs : List (List Int)} (hm : c ∈ cs) (hq : hgt q ≤ 39) (hv : ValidP m cs q) : F__law_walk [encP q, encC c] = .ok (walkD q c) := by
  obtain ⟨q', e⟩ := lwalk_loop hc q 60 cs [] hm (by omega) hv (by simp; omega)
  rw [List.nil_append] at e
  unfold F__law_walk g__law_walk
  simp only [dIx_t0, dIx_t1, dIx_l0, dIx_l1, toItems, itemsOf, runF, runL, startE, endF, endL, R.bind_ok, R.bind_exc, R.bind_stuck, gSeq, gIf, gSet, gOwn, gRet, gRetL, gRetO, gDrop, gTgt, gT, gsC, gsN, gN, gFor, gApp, gExt, gFrz, gNil, gExc, eVar, eC, e1, e2, eA, aNil, aCons, eTup, eLst, eCall, lCall, listR, eChain, tV, tAndD, tOrD, tNotD, eAnd, eOr, eNot, eIf, eL, lDisp, lList, lRep, oNone, oSome, eSl, iSeq, iRng1, iRng2, iZipD, iEnumD, iRevD, lListRange, lLc, eSorted, eSortSet, eLenSet, eBor, tBor, tYesD, noE, toB, dCmp, dSub, dNeg, dInt, dLen, dIs, dIsNot, List.map_cons, List.map_nil, List.length_cons, List.length_nil, Nat.reduceAdd, Nat.reduceSub, Nat.reduceLeDiff, List.replicate, List.cons_append, List.nil_append, List.append_nil, List.getElem?_cons_zero, List.getElem?_cons_succ, List.set_cons_zero, List.set_cons_succ, if_true, if_false, reduceIte, Bool.not_true, Bool.not_false, Bool.false_eq_true, reduceCtorEq, e]
  rfl
theorem each_map_enc {step : D → PL.R (List D)} {h : List Int → D} : ∀ {cs : List (List Int)}, (∀ c ∈ cs, step (encC c) = .ok [h c]) → eachR step (cs.map encC) = .ok (cs.map h)
  | [], _ => rfl
  | c :: cs, e => by
    rw [List.map_cons, eachR, e c (List.mem_cons_self ..), R.bind_ok, each_map_enc (h := h) fun d hd => e d (List.mem_cons_of_mem _ hd)]
    rfl
theorem each_map' {α : Type} {step : D → PL.R (List D)} {g : α → D} {h : α → D} : ∀ {cs : List α}, (∀ c ∈ cs, step (g c) = .ok [h c]) → eachR step (cs.map g) = .ok (cs.map h)
  | [], _ => rfl
  | c :: cs, e => by
    rw [List.map_cons, eachR, e c (List.mem_cons_self ..), R.bind_ok, each_map' (h := h) fun d hd => e d (List.mem_cons_of_mem _ hd)]
    rfl
theorem each_none {step : D → PL.R (List D)} : ∀ {xs : List D}, (∀ x ∈ xs, step x = .ok []) → eachR step xs = .ok []
  | [], _ => rfl
  | x :: xs, e => by
    rw [eachR, e x (List.mem_cons_self ..), R.bind_ok, each_none fun d hd => e d (List.mem_cons_of_mem _ hd)]
    rfl
theorem encW_sh (w : Wg) : sh 2 (encW w) := sh_tuple (n := 1) fun x hx => by
  simp only [List.mem_cons, List.not_mem_nil, or_false] at hx
  rcases hx with rfl | rfl
  · exact sh_tuple (sh_ints _)
  · exact sh_tuple (sh_ints _)
theorem encS_sh (x : Wg × Int) : sh 3 (encS x) := sh_tuple (n := 2) fun y hy => by
  simp only [List.mem_cons, List.not_mem_nil, or_false] at hy
  rcases hy with rfl | rfl
  · exact encW_sh _
  · exact sh_int _
theorem walkD_sh (q : Pl) (c : List Int) : sh 4 (.list (walkD q c)) := sh_list fun x hx => by
  obtain ⟨y, _, rfl⟩ := List.mem_map.mp hx
  exact encS_sh y
theorem walkD_ne (q : Pl) (c : List Int) : dNe (.list (walkD q c)) (.list (walkD q c)) = .ok (.bool false) := by
  rw [dNe_sh (walkD_sh q c) (walkD_sh q c), SeqAt.eqv_refl _ (walkD_sh q c).1]
  rfl
section
variable {m : Nat} {cs : List (List Int)} {q : Pl}
theorem goes1 (hc : ∀ c ∈ cs, CaseOk m c) (hl : cs.length ≤ 100) (hq : hgt q ≤ 39) (hv : ValidP m cs q) (s2 : D) : c__law_goes_1 [.val (encP q), .val (.list (cs.map encC)), .val s2, .no, .no, .no, .no, .no, .no] = .ok (cs.map fun c => .list (walkD q c)) := by
  unfold c__law_goes_1
  simp only [dIx_t0, dIx_t1, dIx_l0, dIx_l1, toItems, itemsOf, runF, runL, startE, endF, endL, R.bind_ok, R.bind_exc, R.bind_stuck, gSeq, gIf, gSet, gOwn, gRet, gRetL, gRetO, gDrop, gTgt, gT, gsC, gsN, gN, gFor, gApp, gExt, gFrz, gNil, gExc, eVar, eC, e1, e2, eA, aNil, aCons, eTup, eLst, eCall, lCall, listR, eChain, tV, tAndD, tOrD, tNotD, eAnd, eOr, eNot, eIf, eL, lDisp, lList, lRep, oNone, oSome, eSl, iSeq, iRng1, iRng2, iZipD, iEnumD, iRevD, lListRange, lLc, eSorted, eSortSet, eLenSet, eBor, tBor, tYesD, noE, toB, dCmp, dSub, dNeg, dInt, dLen, dIs, dIsNot, List.map_cons, List.map_nil, List.length_cons, List.length_nil, Nat.reduceAdd, Nat.reduceSub, Nat.reduceLeDiff, List.replicate, List.cons_append, List.nil_append, List.append_nil, List.getElem?_cons_zero, List.getElem?_cons_succ, List.set_cons_zero, List.set_cons_succ, if_true, if_false, reduceIte, Bool.not_true, Bool.not_false, Bool.false_eq_true, reduceCtorEq]
  rw [if_pos ⟨by rw [List.length_map]; omega, rfl⟩]
  refine noE_of (each_map_enc fun c h => ?_)
  unfold lcStep
  simp only [dIx_t0, dIx_t1, dIx_l0, dIx_l1, toItems, itemsOf, runF, runL, startE, endF, endL, R.bind_ok, R.bind_exc, R.bind_stuck, gSeq, gIf, gSet, gOwn, gRet, gRetL, gRetO, gDrop, gTgt, gT, gsC, gsN, gN, gFor, gApp, gExt, gFrz, gNil, gExc, eVar, eC, e1, e2, eA, aNil, aCons, eTup, eLst, eCall, lCall, listR, eChain, tV, tAndD, tOrD, tNotD, eAnd, eOr, eNot, eIf, eL, lDisp, lList, lRep, oNone, oSome, eSl, iSeq, iRng1, iRng2, iZipD, iEnumD, iRevD, lListRange, lLc, eSorted, eSortSet, eLenSet, eBor, tBor, tYesD, noE, toB, dCmp, dSub, dNeg, dInt, dLen, dIs, dIsNot, List.map_cons, List.map_nil, List.length_cons, List.length_nil, Nat.reduceAdd, Nat.reduceSub, Nat.reduceLeDiff, List.replicate, List.cons_append, List.nil_append, List.append_nil, List.getElem?_cons_zero, List.getElem?_cons_succ, List.set_cons_zero, List.set_cons_succ, if_true, if_false, reduceIte, Bool.not_true, Bool.not_false, Bool.false_eq_true, reduceCtorEq, wipeE, lwalk_eq (hc c h) h hq hv]
theorem goes2 (hl : cs.length ≤ 100) (s0 s1 s2 : D) : c__law_goes_2 [.val s0, .val s1, .val s2, .val (.list (cs.map fun c => .list (walkD q c))), .no, .no, .no, .no, .no] = .ok ((cs.map fun c => ((walkP q c).length : Int)).map PyData.int) := by
  unfold c__law_goes_2
  simp only [dIx_t0, dIx_t1, dIx_l0, dIx_l1, toItems, itemsOf, runF, runL, startE, endF, endL, R.bind_ok, R.bind_exc, R.bind_stuck, gSeq, gIf, gSet, gOwn, gRet, gRetL, gRetO, gDrop, gTgt, gT, gsC, gsN, gN, gFor, gApp, gExt, gFrz, gNil, gExc, eVar, eC, e1, e2, eA, aNil, aCons, eTup, eLst, eCall, lCall, listR, eChain, tV, tAndD, tOrD, tNotD, eAnd, eOr, eNot, eIf, eL, lDisp, lList, lRep, oNone, oSome, eSl, iSeq, iRng1, iRng2, iZipD, iEnumD, iRevD, lListRange, lLc, eSorted, eSortSet, eLenSet, eBor, tBor, tYesD, noE, toB, dCmp, dSub, dNeg, dInt, dLen, dIs, dIsNot, List.map_cons, List.map_nil, List.length_cons, List.length_nil, Nat.reduceAdd, Nat.reduceSub, Nat.reduceLeDiff, List.replicate, List.cons_append, List.nil_append, List.append_nil, List.getElem?_cons_zero, List.getElem?_cons_succ, List.set_cons_zero, List.set_cons_succ, if_true, if_false, reduceIte, Bool.not_true, Bool.not_false, Bool.false_eq_true, reduceCtorEq]
  rw [if_pos ⟨by rw [List.length_map]; omega, rfl⟩]
  rw [List.map_map]
  refine noE_of (each_map' (h := PyData.int ∘ fun c => ((walkP q c).length : Int)) fun c h => ?_)
  unfold lcStep
  simp only [dIx_t0, dIx_t1, dIx_l0, dIx_l1, toItems, itemsOf, runF, runL, startE, endF, endL, R.bind_ok, R.bind_exc, R.bind_stuck, gSeq, gIf, gSet, gOwn, gRet, gRetL, gRetO, gDrop, gTgt, gT, gsC, gsN, gN, gFor, gApp, gExt, gFrz, gNil, gExc, eVar, eC, e1, e2, eA, aNil, aCons, eTup, eLst, eCall, lCall, listR, eChain, tV, tAndD, tOrD, tNotD, eAnd, eOr, eNot, eIf, eL, lDisp, lList, lRep, oNone, oSome, eSl, iSeq, iRng1, iRng2, iZipD, iEnumD, iRevD, lListRange, lLc, eSorted, eSortSet, eLenSet, eBor, tBor, tYesD, noE, toB, dCmp, dSub, dNeg, dInt, dLen, dIs, dIsNot, List.map_cons, List.map_nil, List.length_cons, List.length_nil, Nat.reduceAdd, Nat.reduceSub, Nat.reduceLeDiff, List.replicate, List.cons_append, List.nil_append, List.append_nil, List.getElem?_cons_zero, List.getElem?_cons_succ, List.set_cons_zero, List.set_cons_succ, if_true, if_false, reduceIte, Bool.not_true, Bool.not_false, Bool.false_eq_true, reduceCtorEq, wipeE, walkD, List.length_map]
  rfl
theorem goes3 (c : List Int) (hl : (walkD q c).length ≤ 100000) (s0 s1 s2 s3 s4 : PL.Slot noObj) : c__law_goes_3 [s0, s1, s2, s3, s4, .val (.list (walkD q c)), .no, .no, .no] = .ok [] := by
  unfold c__law_goes_3
  simp only [dIx_t0, dIx_t1, dIx_l0, dIx_l1, toItems, itemsOf, runF, runL, startE, endF, endL, R.bind_ok, R.bind_exc, R.bind_stuck, gSeq, gIf, gSet, gOwn, gRet, gRetL, gRetO, gDrop, gTgt, gT, gsC, gsN, gN, gFor, gApp, gExt, gFrz, gNil, gExc, eVar, eC, e1, e2, eA, aNil, aCons, eTup, eLst, eCall, lCall, listR, eChain, tV, tAndD, tOrD, tNotD, eAnd, eOr, eNot, eIf, eL, lDisp, lList, lRep, oNone, oSome, eSl, iSeq, iRng1, iRng2, iZipD, iEnumD, iRevD, lListRange, lLc, eSorted, eSortSet, eLenSet, eBor, tBor, tYesD, noE, toB, dCmp, dSub, dNeg, dInt, dLen, dIs, dIsNot, List.map_cons, List.map_nil, List.length_cons, List.length_nil, Nat.reduceAdd, Nat.reduceSub, Nat.reduceLeDiff, List.replicate, List.cons_append, List.nil_append, List.append_nil, List.getElem?_cons_zero, List.getElem?_cons_succ, List.set_cons_zero, List.set_cons_succ, if_true, if_false, reduceIte, Bool.not_true, Bool.not_false, Bool.false_eq_true, reduceCtorEq]
  rw [if_pos ⟨hl, rfl⟩]
  refine noE_of (each_none fun x hx => ?_)
  obtain ⟨y, _, rfl⟩ := List.mem_map.mp hx
  unfold lcStep
  simp only [dIx_t0, dIx_t1, dIx_l0, dIx_l1, toItems, itemsOf, runF, runL, startE, endF, endL, R.bind_ok, R.bind_exc, R.bind_stuck, gSeq, gIf, gSet, gOwn, gRet, gRetL, gRetO, gDrop, gTgt, gT, gsC, gsN, gN, gFor, gApp, gExt, gFrz, gNil, gExc, eVar, eC, e1, e2, eA, aNil, aCons, eTup, eLst, eCall, lCall, listR, eChain, tV, tAndD, tOrD, tNotD, eAnd, eOr, eNot, eIf, eL, lDisp, lList, lRep, oNone, oSome, eSl, iSeq, iRng1, iRng2, iZipD, iEnumD, iRevD, lListRange, lLc, eSorted, eSortSet, eLenSet, eBor, tBor, tYesD, noE, toB, dCmp, dSub, dNeg, dInt, dLen, dIs, dIsNot, List.map_cons, List.map_nil, List.length_cons, List.length_nil, Nat.reduceAdd, Nat.reduceSub, Nat.reduceLeDiff, List.replicate, List.cons_append, List.nil_append, List.append_nil, List.getElem?_cons_zero, List.getElem?_cons_succ, List.set_cons_zero, List.set_cons_succ, if_true, if_false, reduceIte, Bool.not_true, Bool.not_false, Bool.false_eq_true, reduceCtorEq, wipeE, encS, isi_tuple (.tuple [encW y.1, .int y.2]) (by simp [tyD]), law_whole_int]
theorem goes_step (hc : ∀ c ∈ cs, CaseOk m c) (hq : hgt q ≤ 39) (hv : ValidP m cs q) (s2 : D) (k : Int) (h0 : 0 ≤ k) (h1 : k < cs.length) (s5 s6 : PL.Slot noObj) :
    ∃ t5, g__law_goes_L1 [.val (encP q), .val (.list (cs.map encC)), .val s2, .val (.list (cs.map fun c => .list (walkD q c))), .val (.int k), s5, .no, .no, .no] = .ok (.nx, [.val (encP q), .val (.list (cs.map encC)), .val s2, .val (.list (cs.map fun c => .list (walkD q c))), .val (.int k), t5, .no, .no, .no]) := by
  have hk : k.toNat < cs.length := by omega
  have hm : cs[k.toNat] ∈ cs := List.getElem_mem hk
  have i1 : dIx (.list (cs.map encC)) (.int k) = .ok (encC cs[k.toNat]) := dIx_list h0 (by rw [List.getElem?_map, List.getElem?_eq_getElem hk]; rfl)
  have i2 : dIx (.list (cs.map fun c => PyData.list (walkD q c))) (.int k) = .ok (.list (walkD q cs[k.toNat])) := dIx_list h0 (by rw [List.getElem?_map, List.getElem?_eq_getElem hk]; rfl)
  have wl : (walkD q cs[k.toNat]).length ≤ 39 := by
    unfold walkD
    rw [List.length_map]
    exact Nat.le_trans (walk_len _ q) hq
  have wl2 : (walkD q cs[k.toNat]).length < 100000 := by omega
  have n1 : dNe (.list []) (.list []) = .ok (.bool false) := rfl
  have g3 := fun s0 s1 s2 s3 s4 => goes3 (q := q) cs[k.toNat] (by omega) s0 s1 s2 s3 s4
  refine ⟨.own (walkD q cs[k.toNat] ++ [.none]), ?_⟩
  unfold g__law_goes_L1
  simp only [dIx_t0, dIx_t1, dIx_l0, dIx_l1, toItems, itemsOf, runF, runL, startE, endF, endL, R.bind_ok, R.bind_exc, R.bind_stuck, gSeq, gIf, gSet, gOwn, gRet, gRetL, gRetO, gDrop, gTgt, gT, gsC, gsN, gN, gFor, gApp, gExt, gFrz, gNil, gExc, eVar, eC, e1, e2, eA, aNil, aCons, eTup, eLst, eCall, lCall, listR, eChain, tV, tAndD, tOrD, tNotD, eAnd, eOr, eNot, eIf, eL, lDisp, lList, lRep, oNone, oSome, eSl, iSeq, iRng1, iRng2, iZipD, iEnumD, iRevD, lListRange, lLc, eSorted, eSortSet, eLenSet, eBor, tBor, tYesD, noE, toB, dCmp, dSub, dNeg, dInt, dLen, dIs, dIsNot, List.map_cons, List.map_nil, List.length_cons, List.length_nil, Nat.reduceAdd, Nat.reduceSub, Nat.reduceLeDiff, List.replicate, List.cons_append, List.nil_append, List.append_nil, List.getElem?_cons_zero, List.getElem?_cons_succ, List.set_cons_zero, List.set_cons_succ, if_true, if_false, reduceIte, Bool.not_true, Bool.not_false, Bool.false_eq_true, reduceCtorEq, i1, walked_eq (hc _ hm) hm hq hv, noObjs_true, isi_list (.list (walkD q cs[k.toNat])) (by simp [tyD]), i2, walkD_ne, g3, n1, wl2]
theorem goes_loop (hc : ∀ c ∈ cs, CaseOk m c) (hq : hgt q ≤ 39) (hv : ValidP m cs q) (s2 : D) : ∀ (ks : List Int) (s4 s5 : PL.Slot noObj), (∀ k ∈ ks, 0 ≤ k ∧ k < cs.length) →
    ∃ ρ', loopF (gN 4) g__law_goes_L1 (ks.map PyData.int) [.val (encP q), .val (.list (cs.map encC)), .val s2, .val (.list (cs.map fun c => .list (walkD q c))), s4, s5, .no, .no, .no] = .ok (.nx, ρ')
  | [], s4, s5, _ => ⟨_, rfl⟩
  | k :: ks, s4, s5, h => by
    obtain ⟨t5, e⟩ := goes_step hc hq hv s2 k (h k (List.mem_cons_self ..)).1 (h k (List.mem_cons_self ..)).2 s5 .no
    obtain ⟨ρ', e'⟩ := goes_loop hc hq hv s2 ks (.val (.int k)) t5 fun j hj => h j (List.mem_cons_of_mem _ hj)
    exact ⟨ρ', by simp only [dIx_t0, dIx_t1, dIx_l0, dIx_l1, toItems, itemsOf, runF, runL, startE, endF, endL, R.bind_ok, R.bind_exc, R.bind_stuck, gSeq, gIf, gSet, gOwn, gRet, gRetL, gRetO, gDrop, gTgt, gT, gsC, gsN, gN, gFor, gApp, gExt, gFrz, gNil, gExc, eVar, eC, e1, e2, eA, aNil, aCons, eTup, eLst, eCall, lCall, listR, eChain, tV, tAndD, tOrD, tNotD, eAnd, eOr, eNot, eIf, eL, lDisp, lList, lRep, oNone, oSome, eSl, iSeq, iRng1, iRng2, iZipD, iEnumD, iRevD, lListRange, lLc, eSorted, eSortSet, eLenSet, eBor, tBor, tYesD, noE, toB, dCmp, dSub, dNeg, dInt, dLen, dIs, dIsNot, List.map_cons, List.map_nil, List.length_cons, List.length_nil, Nat.reduceAdd, Nat.reduceSub, Nat.reduceLeDiff, List.replicate, List.cons_append, List.nil_append, List.append_nil, List.getElem?_cons_zero, List.getElem?_cons_succ, List.set_cons_zero, List.set_cons_succ, if_true, if_false, reduceIte, Bool.not_true, Bool.not_false, Bool.false_eq_true, reduceCtorEq, loopF, e, e']⟩
theorem rd_ints' (j : Nat) : ∃ ks : List Int, rangeD 0 (j : Int) = ks.map PyData.int ∧ ∀ k ∈ ks, 0 ≤ k ∧ k < (j : Int) := by
  refine ⟨(List.range j).map fun i : Nat => (i : Int), ?_, fun k hk => ?_⟩
  · unfold rangeD
    rw [List.map_map, Int.sub_zero, Int.toNat_natCast]
    refine List.map_congr_left fun i _ => ?_
    simp
  · obtain ⟨i, hi, rfl⟩ := List.mem_map.mp hk
    have := List.mem_range.mp hi
    omega
theorem goes_eq (hc : ∀ c ∈ cs, CaseOk m c) (hcs : cs ≠ []) (hl : cs.length ≤ 100) (hq : hgt q ≤ 39) (hv : ValidP m cs q) : F__law_goes [encP q, .list (cs.map encC)] = .ok (.bool true) := by
  have l1 : F_length_of 40 [encP q] = .ok (.int (hgt q)) := length_ok (F := F_length_of) (fun _ => rfl) q 40 cs hcs (by omega) hv
  have l2 : F__law_length 40 [encP q] = .ok (.int (hgt q)) := length_ok (F := F__law_length) (fun _ => rfl) q 40 cs hcs (by omega) hv
  have mx : dMax [.list ((cs.map fun c => ((walkP q c).length : Int)).map PyData.int)] = .ok (.int (hgt q)) := by
    refine dMax_eq (fun x hx => ?_) ?_
    · obtain ⟨c, _, rfl⟩ := List.mem_map.mp hx
      have := walk_len c q
      omega
    · obtain ⟨c, h1, h2⟩ := walk_max q cs hcs hv
      exact List.mem_map.mpr ⟨c, h1, by rw [h2]⟩
  obtain ⟨ks, r1, r2⟩ := rd_ints' cs.length
  obtain ⟨ρ', lp⟩ := goes_loop hc hq hv (.int (hgt q)) ks .no .no r2
  have jj : (-100000 ≤ (cs.length : Int) ∧ (cs.length : Int) ≤ 100000) := by omega
  unfold F__law_goes g__law_goes
  simp only [dIx_t0, dIx_t1, dIx_l0, dIx_l1, toItems, itemsOf, runF, runL, startE, endF, endL, R.bind_ok, R.bind_exc, R.bind_stuck, gSeq, gIf, gSet, gOwn, gRet, gRetL, gRetO, gDrop, gTgt, gT, gsC, gsN, gN, gFor, gApp, gExt, gFrz, gNil, gExc, eVar, eC, e1, e2, eA, aNil, aCons, eTup, eLst, eCall, lCall, listR, eChain, tV, tAndD, tOrD, tNotD, eAnd, eOr, eNot, eIf, eL, lDisp, lList, lRep, oNone, oSome, eSl, iSeq, iRng1, iRng2, iZipD, iEnumD, iRevD, lListRange, lLc, eSorted, eSortSet, eLenSet, eBor, tBor, tYesD, noE, toB, dCmp, dSub, dNeg, dInt, dLen, dIs, dIsNot, List.map_cons, List.map_nil, List.length_cons, List.length_nil, Nat.reduceAdd, Nat.reduceSub, Nat.reduceLeDiff, List.replicate, List.cons_append, List.nil_append, List.append_nil, List.getElem?_cons_zero, List.getElem?_cons_succ, List.set_cons_zero, List.set_cons_succ, if_true, if_false, reduceIte, Bool.not_true, Bool.not_false, Bool.false_eq_true, reduceCtorEq, l1, goes1 hc hl hq hv, law_whole_int, goes2 hl, mx, dNe_int, decide_true, l2, List.length_map, jj, and_self, r1, lp]
end
end W

set_option Elab.async false
set_option linter.all false
set_option maxRecDepth 100000
set_option maxHeartbeats 1000000
namespace W
open PySem PL
theorem lookW_enc {w : Wg} (h1 : w.1.length ≤ 30) (h2 : w.2.length ≤ 30) : lookW (encW w) := ⟨sh_up (encW_sh w) (by decide), fun us e => by
  cases e
  refine ⟨by simp, fun ys hy => ?_⟩
  simp only [List.mem_cons, List.not_mem_nil, or_false, PyData.tuple.injEq] at hy
  rcases hy with rfl | rfl <;> rw [List.length_map] <;> assumption⟩
/-- the weighings that lead, and those turned about -/
structure Lead (m : Nat) (w : Wg) : Prop where
  is : isW m (encW w) = true
  look : lookW (encW w)
theorem Lead.ok {m : Nat} {w : Wg} (h : Lead m w) : WgOk m w := isW_ok h.is h.look
theorem lead_of {m : Nat} (hm : Many m) {w : Wg} (h : w ∈ Ws m) : Lead m w := by
  obtain ⟨a, _, c, d⟩ := goodWs hm w h
  exact ⟨a, lookW_enc c d⟩
theorem lead_swap {m : Nat} (hm : Many m) {w : Wg} (h : w ∈ Ws m) : Lead m (swapW w) := by
  obtain ⟨_, b, c, d⟩ := goodWs hm w h
  exact ⟨b, lookW_enc d c⟩
theorem cm_swap (w : Wg) (c : List Int) : cm (swapW w) c = 0 - cm w c := cameI_swap w.1 w.2 c
theorem each_flt {α : Type} {step : D → PL.R (List D)} {g : α → D} {p : α → Bool} : ∀ {l : List α}, (∀ a ∈ l, step (g a) = .ok (if p a = true then [g a] else [])) → eachR step (l.map g) = .ok ((l.filter p).map g)
  | [], _ => rfl
  | a :: l, h => by
    rw [List.map_cons, eachR, h a (List.mem_cons_self ..), R.bind_ok, each_flt (p := p) fun b hb => h b (List.mem_cons_of_mem _ hb), R.bind_ok]
    by_cases hp : p a = true <;> simp [hp]
/-! ### no two alike on the scales -/
def Sep (m : Nat) (c d : List Int) : Prop := ∃ w ∈ Ws m, cm w c ≠ cm w d
theorem alike_ok {m : Nat} (hm : Many m) {c d : List Int} (hc : CaseOk m c) (hd : CaseOk m d) : F__law_alike [.list ((Ws m).map encW), encC c, encC d] = .ok (.bool ((Ws m).all fun w => decide (cm w c = cm w d))) := by
  have key : c__law_alike_1 [.val (.list ((Ws m).map encW)), .val (encC c), .val (encC d), .no] = .ok (((Ws m).filter fun w => !decide (cm w c = cm w d)).map encW) := by
    unfold c__law_alike_1
    simp only [dIx_t0, dIx_t1, dIx_l0, dIx_l1, toItems, itemsOf, runF, runL, startE, endF, endL, R.bind_ok, R.bind_exc, R.bind_stuck, gSeq, gIf, gSet, gOwn, gRet, gRetL, gRetO, gDrop, gTgt, gT, gsC, gsN, gN, gFor, gApp, gExt, gFrz, gNil, gExc, eVar, eC, e1, e2, eA, aNil, aCons, eTup, eLst, eCall, lCall, listR, eChain, tV, tAndD, tOrD, tNotD, eAnd, eOr, eNot, eIf, eL, lDisp, lList, lRep, oNone, oSome, eSl, iSeq, iRng1, iRng2, iZipD, iEnumD, iRevD, lListRange, lLc, eSorted, eSortSet, eLenSet, eBor, tBor, tYesD, noE, toB, dCmp, dSub, dNeg, dInt, dLen, dIs, dIsNot, List.map_cons, List.map_nil, List.length_cons, List.length_nil, Nat.reduceAdd, Nat.reduceSub, Nat.reduceLeDiff, List.replicate, List.cons_append, List.nil_append, List.append_nil, List.getElem?_cons_zero, List.getElem?_cons_succ, List.set_cons_zero, List.set_cons_succ, if_true, if_false, reduceIte, Bool.not_true, Bool.not_false, Bool.false_eq_true, reduceCtorEq]
    rw [if_pos ⟨by rw [List.length_map]; have := (Ws_len hm).2; omega, rfl⟩]
    refine noE_of ?_
    refine each_flt fun w hw => ?_
    have wok := (lead_of hm hw).ok
    unfold lcStep
    simp only [dIx_t0, dIx_t1, dIx_l0, dIx_l1, toItems, itemsOf, runF, runL, startE, endF, endL, R.bind_ok, R.bind_exc, R.bind_stuck, gSeq, gIf, gSet, gOwn, gRet, gRetL, gRetO, gDrop, gTgt, gT, gsC, gsN, gN, gFor, gApp, gExt, gFrz, gNil, gExc, eVar, eC, e1, e2, eA, aNil, aCons, eTup, eLst, eCall, lCall, listR, eChain, tV, tAndD, tOrD, tNotD, eAnd, eOr, eNot, eIf, eL, lDisp, lList, lRep, oNone, oSome, eSl, iSeq, iRng1, iRng2, iZipD, iEnumD, iRevD, lListRange, lLc, eSorted, eSortSet, eLenSet, eBor, tBor, tYesD, noE, toB, dCmp, dSub, dNeg, dInt, dLen, dIs, dIsNot, List.map_cons, List.map_nil, List.length_cons, List.length_nil, Nat.reduceAdd, Nat.reduceSub, Nat.reduceLeDiff, List.replicate, List.cons_append, List.nil_append, List.append_nil, List.getElem?_cons_zero, List.getElem?_cons_succ, List.set_cons_zero, List.set_cons_succ, if_true, if_false, reduceIte, Bool.not_true, Bool.not_false, Bool.false_eq_true, reduceCtorEq, wipeE, lcame_eq wok hc, lcame_eq wok hd, dNe_int]
    by_cases h : cm w c = cm w d
    · simp only [dIx_t0, dIx_t1, dIx_l0, dIx_l1, toItems, itemsOf, runF, runL, startE, endF, endL, R.bind_ok, R.bind_exc, R.bind_stuck, gSeq, gIf, gSet, gOwn, gRet, gRetL, gRetO, gDrop, gTgt, gT, gsC, gsN, gN, gFor, gApp, gExt, gFrz, gNil, gExc, eVar, eC, e1, e2, eA, aNil, aCons, eTup, eLst, eCall, lCall, listR, eChain, tV, tAndD, tOrD, tNotD, eAnd, eOr, eNot, eIf, eL, lDisp, lList, lRep, oNone, oSome, eSl, iSeq, iRng1, iRng2, iZipD, iEnumD, iRevD, lListRange, lLc, eSorted, eSortSet, eLenSet, eBor, tBor, tYesD, noE, toB, dCmp, dSub, dNeg, dInt, dLen, dIs, dIsNot, List.map_cons, List.map_nil, List.length_cons, List.length_nil, Nat.reduceAdd, Nat.reduceSub, Nat.reduceLeDiff, List.replicate, List.cons_append, List.nil_append, List.append_nil, List.getElem?_cons_zero, List.getElem?_cons_succ, List.set_cons_zero, List.set_cons_succ, if_true, if_false, reduceIte, Bool.not_true, Bool.not_false, Bool.false_eq_true, reduceCtorEq, decide_eq_true h]
    · simp only [dIx_t0, dIx_t1, dIx_l0, dIx_l1, toItems, itemsOf, runF, runL, startE, endF, endL, R.bind_ok, R.bind_exc, R.bind_stuck, gSeq, gIf, gSet, gOwn, gRet, gRetL, gRetO, gDrop, gTgt, gT, gsC, gsN, gN, gFor, gApp, gExt, gFrz, gNil, gExc, eVar, eC, e1, e2, eA, aNil, aCons, eTup, eLst, eCall, lCall, listR, eChain, tV, tAndD, tOrD, tNotD, eAnd, eOr, eNot, eIf, eL, lDisp, lList, lRep, oNone, oSome, eSl, iSeq, iRng1, iRng2, iZipD, iEnumD, iRevD, lListRange, lLc, eSorted, eSortSet, eLenSet, eBor, tBor, tYesD, noE, toB, dCmp, dSub, dNeg, dInt, dLen, dIs, dIsNot, List.map_cons, List.map_nil, List.length_cons, List.length_nil, Nat.reduceAdd, Nat.reduceSub, Nat.reduceLeDiff, List.replicate, List.cons_append, List.nil_append, List.append_nil, List.getElem?_cons_zero, List.getElem?_cons_succ, List.set_cons_zero, List.set_cons_succ, if_true, if_false, reduceIte, Bool.not_true, Bool.not_false, Bool.false_eq_true, reduceCtorEq, decide_eq_false h]
  have hn : dEq (.list (((Ws m).filter fun w => !decide (cm w c = cm w d)).map encW)) (.list []) = .ok (.bool ((Ws m).all fun w => decide (cm w c = cm w d))) := by
    rw [dEq_sh (n := 3) (sh_list (n := 2) fun x hx => by obtain ⟨w, _, rfl⟩ := List.mem_map.mp hx; exact encW_sh w) (sh_list (n := 1) (xs := []) (by simp))]
    congr 2
    rw [Bool.eq_iff_iff]
    have e : ∀ l : List Wg, (PyData.eqv (.list (l.map encW)) (.list []) = true) ↔ l = [] := fun l => by cases l <;> simp [PyData.eqv, PyData.eqvAll]
    rw [e, List.filter_eq_nil_iff, List.all_eq_true]
    simp
  unfold F__law_alike g__law_alike
  simp only [dIx_t0, dIx_t1, dIx_l0, dIx_l1, toItems, itemsOf, runF, runL, startE, endF, endL, R.bind_ok, R.bind_exc, R.bind_stuck, gSeq, gIf, gSet, gOwn, gRet, gRetL, gRetO, gDrop, gTgt, gT, gsC, gsN, gN, gFor, gApp, gExt, gFrz, gNil, gExc, eVar, eC, e1, e2, eA, aNil, aCons, eTup, eLst, eCall, lCall, listR, eChain, tV, tAndD, tOrD, tNotD, eAnd, eOr, eNot, eIf, eL, lDisp, lList, lRep, oNone, oSome, eSl, iSeq, iRng1, iRng2, iZipD, iEnumD, iRevD, lListRange, lLc, eSorted, eSortSet, eLenSet, eBor, tBor, tYesD, noE, toB, dCmp, dSub, dNeg, dInt, dLen, dIs, dIsNot, List.map_cons, List.map_nil, List.length_cons, List.length_nil, Nat.reduceAdd, Nat.reduceSub, Nat.reduceLeDiff, List.replicate, List.cons_append, List.nil_append, List.append_nil, List.getElem?_cons_zero, List.getElem?_cons_succ, List.set_cons_zero, List.set_cons_succ, if_true, if_false, reduceIte, Bool.not_true, Bool.not_false, Bool.false_eq_true, reduceCtorEq, key, hn]
theorem alike_sep {m : Nat} {c d : List Int} : ((Ws m).all fun w => decide (cm w c = cm w d)) = false ↔ Sep m c d := by
  rw [← Bool.not_eq_true, List.all_eq_true]
  simp only [decide_eq_true_eq, Sep]
  exact ⟨fun h => by
    by_cases z : ∃ w ∈ Ws m, cm w c ≠ cm w d
    · exact z
    · exact absurd (fun w hw => by
        by_cases q : cm w c = cm w d
        · exact q
        · exact absurd ⟨w, hw, q⟩ z) h, fun ⟨w, hw, ne⟩ h => ne (h w hw)⟩
theorem Sep.symm {m : Nat} {c d : List Int} : Sep m c d → Sep m d c := fun ⟨w, h, n⟩ => ⟨w, h, n.symm⟩
def Apart (m : Nat) (cs : List (List Int)) : Prop := cs.Pairwise (Sep m)
theorem apart_step {m : Nat} (hm : Many m) {c : List Int} (hc : CaseOk m c) {fs : List (List Int)} (hf : ∀ d ∈ fs, CaseOk m d) (hl : fs.length ≤ 100) (s1 : PL.Slot noObj) :
    ∃ b : Bool, (b = true ↔ ∀ d ∈ fs, Sep m c d) ∧ g__law_apart_L1 [.val (.list ((Ws m).map encW)), s1, .own (fs.map encC), .val (encC c), .no] = .ok (.nx, [.val (.list ((Ws m).map encW)), s1, .own ((if b = true then fs ++ [c] else fs).map encC), .val (encC c), .no]) := by
  have key : c__law_apart_1 [.val (.list ((Ws m).map encW)), s1, .val (.list (fs.map encC)), .val (encC c), .no] = .ok ((fs.filter fun d => (Ws m).all fun w => decide (cm w c = cm w d)).map encC) := by
    unfold c__law_apart_1
    simp only [dIx_t0, dIx_t1, dIx_l0, dIx_l1, toItems, itemsOf, runF, runL, startE, endF, endL, R.bind_ok, R.bind_exc, R.bind_stuck, gSeq, gIf, gSet, gOwn, gRet, gRetL, gRetO, gDrop, gTgt, gT, gsC, gsN, gN, gFor, gApp, gExt, gFrz, gNil, gExc, eVar, eC, e1, e2, eA, aNil, aCons, eTup, eLst, eCall, lCall, listR, eChain, tV, tAndD, tOrD, tNotD, eAnd, eOr, eNot, eIf, eL, lDisp, lList, lRep, oNone, oSome, eSl, iSeq, iRng1, iRng2, iZipD, iEnumD, iRevD, lListRange, lLc, eSorted, eSortSet, eLenSet, eBor, tBor, tYesD, noE, toB, dCmp, dSub, dNeg, dInt, dLen, dIs, dIsNot, List.map_cons, List.map_nil, List.length_cons, List.length_nil, Nat.reduceAdd, Nat.reduceSub, Nat.reduceLeDiff, List.replicate, List.cons_append, List.nil_append, List.append_nil, List.getElem?_cons_zero, List.getElem?_cons_succ, List.set_cons_zero, List.set_cons_succ, if_true, if_false, reduceIte, Bool.not_true, Bool.not_false, Bool.false_eq_true, reduceCtorEq]
    rw [if_pos ⟨by rw [List.length_map]; omega, rfl⟩]
    refine noE_of (each_enc fun d h => ?_)
    unfold lcStep
    simp only [dIx_t0, dIx_t1, dIx_l0, dIx_l1, toItems, itemsOf, runF, runL, startE, endF, endL, R.bind_ok, R.bind_exc, R.bind_stuck, gSeq, gIf, gSet, gOwn, gRet, gRetL, gRetO, gDrop, gTgt, gT, gsC, gsN, gN, gFor, gApp, gExt, gFrz, gNil, gExc, eVar, eC, e1, e2, eA, aNil, aCons, eTup, eLst, eCall, lCall, listR, eChain, tV, tAndD, tOrD, tNotD, eAnd, eOr, eNot, eIf, eL, lDisp, lList, lRep, oNone, oSome, eSl, iSeq, iRng1, iRng2, iZipD, iEnumD, iRevD, lListRange, lLc, eSorted, eSortSet, eLenSet, eBor, tBor, tYesD, noE, toB, dCmp, dSub, dNeg, dInt, dLen, dIs, dIsNot, List.map_cons, List.map_nil, List.length_cons, List.length_nil, Nat.reduceAdd, Nat.reduceSub, Nat.reduceLeDiff, List.replicate, List.cons_append, List.nil_append, List.append_nil, List.getElem?_cons_zero, List.getElem?_cons_succ, List.set_cons_zero, List.set_cons_succ, if_true, if_false, reduceIte, Bool.not_true, Bool.not_false, Bool.false_eq_true, reduceCtorEq, wipeE, alike_ok hm hc (hf d h)]
    by_cases h : ((Ws m).all fun w => decide (cm w c = cm w d)) = true
    · simp only [h]; simp only [dIx_t0, dIx_t1, dIx_l0, dIx_l1, toItems, itemsOf, runF, runL, startE, endF, endL, R.bind_ok, R.bind_exc, R.bind_stuck, gSeq, gIf, gSet, gOwn, gRet, gRetL, gRetO, gDrop, gTgt, gT, gsC, gsN, gN, gFor, gApp, gExt, gFrz, gNil, gExc, eVar, eC, e1, e2, eA, aNil, aCons, eTup, eLst, eCall, lCall, listR, eChain, tV, tAndD, tOrD, tNotD, eAnd, eOr, eNot, eIf, eL, lDisp, lList, lRep, oNone, oSome, eSl, iSeq, iRng1, iRng2, iZipD, iEnumD, iRevD, lListRange, lLc, eSorted, eSortSet, eLenSet, eBor, tBor, tYesD, noE, toB, dCmp, dSub, dNeg, dInt, dLen, dIs, dIsNot, List.map_cons, List.map_nil, List.length_cons, List.length_nil, Nat.reduceAdd, Nat.reduceSub, Nat.reduceLeDiff, List.replicate, List.cons_append, List.nil_append, List.append_nil, List.getElem?_cons_zero, List.getElem?_cons_succ, List.set_cons_zero, List.set_cons_succ, if_true, if_false, reduceIte, Bool.not_true, Bool.not_false, Bool.false_eq_true, reduceCtorEq]
    · rw [Bool.not_eq_true] at h; simp only [h]; simp only [dIx_t0, dIx_t1, dIx_l0, dIx_l1, toItems, itemsOf, runF, runL, startE, endF, endL, R.bind_ok, R.bind_exc, R.bind_stuck, gSeq, gIf, gSet, gOwn, gRet, gRetL, gRetO, gDrop, gTgt, gT, gsC, gsN, gN, gFor, gApp, gExt, gFrz, gNil, gExc, eVar, eC, e1, e2, eA, aNil, aCons, eTup, eLst, eCall, lCall, listR, eChain, tV, tAndD, tOrD, tNotD, eAnd, eOr, eNot, eIf, eL, lDisp, lList, lRep, oNone, oSome, eSl, iSeq, iRng1, iRng2, iZipD, iEnumD, iRevD, lListRange, lLc, eSorted, eSortSet, eLenSet, eBor, tBor, tYesD, noE, toB, dCmp, dSub, dNeg, dInt, dLen, dIs, dIsNot, List.map_cons, List.map_nil, List.length_cons, List.length_nil, Nat.reduceAdd, Nat.reduceSub, Nat.reduceLeDiff, List.replicate, List.cons_append, List.nil_append, List.append_nil, List.getElem?_cons_zero, List.getElem?_cons_succ, List.set_cons_zero, List.set_cons_succ, if_true, if_false, reduceIte, Bool.not_true, Bool.not_false, Bool.false_eq_true, reduceCtorEq]
  refine ⟨(fs.filter fun d => (Ws m).all fun w => decide (cm w c = cm w d)).isEmpty, ?_, ?_⟩
  · rw [List.isEmpty_iff, List.filter_eq_nil_iff]
    simp only [Bool.not_eq_true]
    exact ⟨fun h d hd => alike_sep.mp (h d hd), fun h d hd => alike_sep.mpr (h d hd)⟩
  · have hl2 : fs.length < 100000 := by omega
    unfold g__law_apart_L1
    simp only [dIx_t0, dIx_t1, dIx_l0, dIx_l1, toItems, itemsOf, runF, runL, startE, endF, endL, R.bind_ok, R.bind_exc, R.bind_stuck, gSeq, gIf, gSet, gOwn, gRet, gRetL, gRetO, gDrop, gTgt, gT, gsC, gsN, gN, gFor, gApp, gExt, gFrz, gNil, gExc, eVar, eC, e1, e2, eA, aNil, aCons, eTup, eLst, eCall, lCall, listR, eChain, tV, tAndD, tOrD, tNotD, eAnd, eOr, eNot, eIf, eL, lDisp, lList, lRep, oNone, oSome, eSl, iSeq, iRng1, iRng2, iZipD, iEnumD, iRevD, lListRange, lLc, eSorted, eSortSet, eLenSet, eBor, tBor, tYesD, noE, toB, dCmp, dSub, dNeg, dInt, dLen, dIs, dIsNot, List.map_cons, List.map_nil, List.length_cons, List.length_nil, Nat.reduceAdd, Nat.reduceSub, Nat.reduceLeDiff, List.replicate, List.cons_append, List.nil_append, List.append_nil, List.getElem?_cons_zero, List.getElem?_cons_succ, List.set_cons_zero, List.set_cons_succ, if_true, if_false, reduceIte, Bool.not_true, Bool.not_false, Bool.false_eq_true, reduceCtorEq, noObjs_true, key, dEq_nil]
    cases (fs.filter fun d => (Ws m).all fun w => decide (cm w c = cm w d)).isEmpty <;> simp only [dIx_t0, dIx_t1, dIx_l0, dIx_l1, toItems, itemsOf, runF, runL, startE, endF, endL, R.bind_ok, R.bind_exc, R.bind_stuck, gSeq, gIf, gSet, gOwn, gRet, gRetL, gRetO, gDrop, gTgt, gT, gsC, gsN, gN, gFor, gApp, gExt, gFrz, gNil, gExc, eVar, eC, e1, e2, eA, aNil, aCons, eTup, eLst, eCall, lCall, listR, eChain, tV, tAndD, tOrD, tNotD, eAnd, eOr, eNot, eIf, eL, lDisp, lList, lRep, oNone, oSome, eSl, iSeq, iRng1, iRng2, iZipD, iEnumD, iRevD, lListRange, lLc, eSorted, eSortSet, eLenSet, eBor, tBor, tYesD, noE, toB, dCmp, dSub, dNeg, dInt, dLen, dIs, dIsNot, List.map_cons, List.map_nil, List.length_cons, List.length_nil, Nat.reduceAdd, Nat.reduceSub, Nat.reduceLeDiff, List.replicate, List.cons_append, List.nil_append, List.append_nil, List.getElem?_cons_zero, List.getElem?_cons_succ, List.set_cons_zero, List.set_cons_succ, if_true, if_false, reduceIte, Bool.not_true, Bool.not_false, Bool.false_eq_true, reduceCtorEq, List.length_map, hl2, List.map_append]
theorem apart_loop {m : Nat} (hm : Many m) (s1 : PL.Slot noObj) : ∀ (cs fs : List (List Int)) (s3 : PL.Slot noObj), (∀ c ∈ cs, CaseOk m c) → (∀ d ∈ fs, CaseOk m d) → Apart m fs → fs.length + cs.length ≤ 100 →
    ∃ (gs : List (List Int)) (t3 : PL.Slot noObj), loopF (gN 3) g__law_apart_L1 (cs.map encC) [.val (.list ((Ws m).map encW)), s1, .own (fs.map encC), s3, .no] = .ok (.nx, [.val (.list ((Ws m).map encW)), s1, .own (gs.map encC), t3, .no]) ∧
      (∀ d ∈ gs, CaseOk m d) ∧ Apart m gs ∧ (∀ d ∈ gs, d ∈ fs ∨ d ∈ cs) ∧ (1 ≤ fs.length + cs.length → gs ≠ []) ∧ gs.length ≤ fs.length + cs.length
  | [], fs, s3, _, hf, ha, _ => ⟨fs, s3, by simp only [dIx_t0, dIx_t1, dIx_l0, dIx_l1, toItems, itemsOf, runF, runL, startE, endF, endL, R.bind_ok, R.bind_exc, R.bind_stuck, gSeq, gIf, gSet, gOwn, gRet, gRetL, gRetO, gDrop, gTgt, gT, gsC, gsN, gN, gFor, gApp, gExt, gFrz, gNil, gExc, eVar, eC, e1, e2, eA, aNil, aCons, eTup, eLst, eCall, lCall, listR, eChain, tV, tAndD, tOrD, tNotD, eAnd, eOr, eNot, eIf, eL, lDisp, lList, lRep, oNone, oSome, eSl, iSeq, iRng1, iRng2, iZipD, iEnumD, iRevD, lListRange, lLc, eSorted, eSortSet, eLenSet, eBor, tBor, tYesD, noE, toB, dCmp, dSub, dNeg, dInt, dLen, dIs, dIsNot, List.map_cons, List.map_nil, List.length_cons, List.length_nil, Nat.reduceAdd, Nat.reduceSub, Nat.reduceLeDiff, List.replicate, List.cons_append, List.nil_append, List.append_nil, List.getElem?_cons_zero, List.getElem?_cons_succ, List.set_cons_zero, List.set_cons_succ, if_true, if_false, reduceIte, Bool.not_true, Bool.not_false, Bool.false_eq_true, reduceCtorEq, loopF], hf, ha, fun d h => .inl h, fun h e => by subst e; simp at h, by simp⟩
  | c :: cs, fs, s3, hc, hf, ha, hl => by
    rw [List.length_cons] at hl
    obtain ⟨b, hb, e⟩ := apart_step hm (hc c (by simp)) hf (by omega) s1
    have hgl : (if b = true then fs ++ [c] else fs).length ≤ fs.length + 1 := by split <;> simp
    have hf2 : ∀ d ∈ (if b = true then fs ++ [c] else fs), CaseOk m d := fun d hd => by
      split at hd
      · rcases List.mem_append.mp hd with h | h
        · exact hf d h
        · rw [List.mem_singleton] at h; subst h; exact hc _ (by simp)
      · exact hf d hd
    have ha2 : Apart m (if b = true then fs ++ [c] else fs) := by
      split
      · rename_i hbt
        refine List.pairwise_append.mpr ⟨ha, List.pairwise_singleton _ _, fun d hd z hz => ?_⟩
        rw [List.mem_singleton] at hz
        subst hz
        exact (hb.mp hbt d hd).symm
      · exact ha
    obtain ⟨gs, t3, e', k1, k2, k3, k4, k5⟩ := apart_loop hm s1 cs (if b = true then fs ++ [c] else fs) (.val (encC c)) (fun d h => hc d (List.mem_cons_of_mem _ h)) hf2 ha2 (by omega)
    refine ⟨gs, t3, by simp only [dIx_t0, dIx_t1, dIx_l0, dIx_l1, toItems, itemsOf, runF, runL, startE, endF, endL, R.bind_ok, R.bind_exc, R.bind_stuck, gSeq, gIf, gSet, gOwn, gRet, gRetL, gRetO, gDrop, gTgt, gT, gsC, gsN, gN, gFor, gApp, gExt, gFrz, gNil, gExc, eVar, eC, e1, e2, eA, aNil, aCons, eTup, eLst, eCall, lCall, listR, eChain, tV, tAndD, tOrD, tNotD, eAnd, eOr, eNot, eIf, eL, lDisp, lList, lRep, oNone, oSome, eSl, iSeq, iRng1, iRng2, iZipD, iEnumD, iRevD, lListRange, lLc, eSorted, eSortSet, eLenSet, eBor, tBor, tYesD, noE, toB, dCmp, dSub, dNeg, dInt, dLen, dIs, dIsNot, List.map_cons, List.map_nil, List.length_cons, List.length_nil, Nat.reduceAdd, Nat.reduceSub, Nat.reduceLeDiff, List.replicate, List.cons_append, List.nil_append, List.append_nil, List.getElem?_cons_zero, List.getElem?_cons_succ, List.set_cons_zero, List.set_cons_succ, if_true, if_false, reduceIte, Bool.not_true, Bool.not_false, Bool.false_eq_true, reduceCtorEq, loopF, e, e'], k1, k2, fun d hd => ?_, fun _ => k4 ?_, by rw [List.length_cons]; omega⟩
    · rcases k3 d hd with h | h
      · split at h
        · rcases List.mem_append.mp h with h | h
          · exact .inl h
          · rw [List.mem_singleton] at h; subst h; exact .inr (by simp)
        · exact .inl h
      · exact .inr (List.mem_cons_of_mem _ h)
    · by_cases hbt : b = true
      · rw [if_pos hbt]; simp; omega
      · rw [if_neg hbt]
        cases fs with
        | nil => exact absurd (hb.mpr (by simp)) hbt
        | cons x r => simp; omega
theorem apart_ok {m : Nat} (hm : Many m) {cs : List (List Int)} (h : CasesOk m cs) : ∃ gs : List (List Int), F__law_apart [.list ((Ws m).map encW), .list (cs.map encC)] = .ok (gs.map encC) ∧ CasesOk m gs ∧ Apart m gs := by
  obtain ⟨gs, t3, e, k1, k2, _, k4, k5⟩ := apart_loop hm (.val (.list (cs.map encC))) cs [] .no h.ok (by simp) (by simp [Apart]) (by have := h.le; simp; omega)
  have hp := h.pos
  have hle := h.le
  have nd : gs.Nodup := k2.imp fun {a b} ⟨w, _, n⟩ e => n (by rw [e])
  refine ⟨gs, ?_, ⟨k1, nd, List.length_pos_iff.mpr (k4 (by simp; omega)), by simp at k5; omega⟩, k2⟩
  simp only [List.map_nil] at e
  unfold F__law_apart g__law_apart
  simp only [dIx_t0, dIx_t1, dIx_l0, dIx_l1, toItems, itemsOf, runF, runL, startE, endF, endL, R.bind_ok, R.bind_exc, R.bind_stuck, gSeq, gIf, gSet, gOwn, gRet, gRetL, gRetO, gDrop, gTgt, gT, gsC, gsN, gN, gFor, gApp, gExt, gFrz, gNil, gExc, eVar, eC, e1, e2, eA, aNil, aCons, eTup, eLst, eCall, lCall, listR, eChain, tV, tAndD, tOrD, tNotD, eAnd, eOr, eNot, eIf, eL, lDisp, lList, lRep, oNone, oSome, eSl, iSeq, iRng1, iRng2, iZipD, iEnumD, iRevD, lListRange, lLc, eSorted, eSortSet, eLenSet, eBor, tBor, tYesD, noE, toB, dCmp, dSub, dNeg, dInt, dLen, dIs, dIsNot, List.map_cons, List.map_nil, List.length_cons, List.length_nil, Nat.reduceAdd, Nat.reduceSub, Nat.reduceLeDiff, List.replicate, List.cons_append, List.nil_append, List.append_nil, List.getElem?_cons_zero, List.getElem?_cons_succ, List.set_cons_zero, List.set_cons_succ, if_true, if_false, reduceIte, Bool.not_true, Bool.not_false, Bool.false_eq_true, reduceCtorEq, e]
end W

set_option Elab.async false
set_option linter.all false
set_option maxRecDepth 100000
set_option maxHeartbeats 1000000
namespace W
open PySem PL
theorem made_by {m : Nat} {w : Wg} (hw : WgOk m w) {cs : List (List Int)} (hc : ∀ c ∈ cs, CaseOk m c) (hl : cs.length ≤ 100) {Rf : List D → PL.R D} (d : Int) (s0 s2 s3 s4 s5 s6 s8 s10 : PL.Slot noObj) :
    c__law_planned_3 Rf [s0, .val (.list (cs.map encC)), s2, s3, s4, s5, s6, .val (encW w), s8, .val (.int d), s10, .no] = .ok ((byW w d cs).map encC) := by
  unfold c__law_planned_3
  simp only [dIx_t0, dIx_t1, dIx_l0, dIx_l1, toItems, itemsOf, runF, runL, startE, endF, endL, R.bind_ok, R.bind_exc, R.bind_stuck, gSeq, gIf, gSet, gOwn, gRet, gRetL, gRetO, gDrop, gTgt, gT, gsC, gsN, gN, gFor, gApp, gExt, gFrz, gNil, gExc, eVar, eC, e1, e2, eA, aNil, aCons, eTup, eLst, eCall, lCall, listR, eChain, tV, tAndD, tOrD, tNotD, eAnd, eOr, eNot, eIf, eL, lDisp, lList, lRep, oNone, oSome, eSl, iSeq, iRng1, iRng2, iZipD, iEnumD, iRevD, lListRange, lLc, eSorted, eSortSet, eLenSet, eBor, tBor, tYesD, noE, toB, dCmp, dSub, dNeg, dInt, dLen, dIs, dIsNot, List.map_cons, List.map_nil, List.length_cons, List.length_nil, Nat.reduceAdd, Nat.reduceSub, Nat.reduceLeDiff, List.replicate, List.cons_append, List.nil_append, List.append_nil, List.getElem?_cons_zero, List.getElem?_cons_succ, List.set_cons_zero, List.set_cons_succ, if_true, if_false, reduceIte, Bool.not_true, Bool.not_false, Bool.false_eq_true, reduceCtorEq]
  rw [if_pos ⟨by rw [List.length_map]; omega, rfl⟩]
  refine noE_of (each_enc fun c h => ?_)
  unfold lcStep
  simp only [dIx_t0, dIx_t1, dIx_l0, dIx_l1, toItems, itemsOf, runF, runL, startE, endF, endL, R.bind_ok, R.bind_exc, R.bind_stuck, gSeq, gIf, gSet, gOwn, gRet, gRetL, gRetO, gDrop, gTgt, gT, gsC, gsN, gN, gFor, gApp, gExt, gFrz, gNil, gExc, eVar, eC, e1, e2, eA, aNil, aCons, eTup, eLst, eCall, lCall, listR, eChain, tV, tAndD, tOrD, tNotD, eAnd, eOr, eNot, eIf, eL, lDisp, lList, lRep, oNone, oSome, eSl, iSeq, iRng1, iRng2, iZipD, iEnumD, iRevD, lListRange, lLc, eSorted, eSortSet, eLenSet, eBor, tBor, tYesD, noE, toB, dCmp, dSub, dNeg, dInt, dLen, dIs, dIsNot, List.map_cons, List.map_nil, List.length_cons, List.length_nil, Nat.reduceAdd, Nat.reduceSub, Nat.reduceLeDiff, List.replicate, List.cons_append, List.nil_append, List.append_nil, List.getElem?_cons_zero, List.getElem?_cons_succ, List.set_cons_zero, List.set_cons_succ, if_true, if_false, reduceIte, Bool.not_true, Bool.not_false, Bool.false_eq_true, reduceCtorEq, wipeE, lcame_eq hw (hc c h), dEq_int]
  by_cases h : cm w c = d
  · simp only [dIx_t0, dIx_t1, dIx_l0, dIx_l1, toItems, itemsOf, runF, runL, startE, endF, endL, R.bind_ok, R.bind_exc, R.bind_stuck, gSeq, gIf, gSet, gOwn, gRet, gRetL, gRetO, gDrop, gTgt, gT, gsC, gsN, gN, gFor, gApp, gExt, gFrz, gNil, gExc, eVar, eC, e1, e2, eA, aNil, aCons, eTup, eLst, eCall, lCall, listR, eChain, tV, tAndD, tOrD, tNotD, eAnd, eOr, eNot, eIf, eL, lDisp, lList, lRep, oNone, oSome, eSl, iSeq, iRng1, iRng2, iZipD, iEnumD, iRevD, lListRange, lLc, eSorted, eSortSet, eLenSet, eBor, tBor, tYesD, noE, toB, dCmp, dSub, dNeg, dInt, dLen, dIs, dIsNot, List.map_cons, List.map_nil, List.length_cons, List.length_nil, Nat.reduceAdd, Nat.reduceSub, Nat.reduceLeDiff, List.replicate, List.cons_append, List.nil_append, List.append_nil, List.getElem?_cons_zero, List.getElem?_cons_succ, List.set_cons_zero, List.set_cons_succ, if_true, if_false, reduceIte, Bool.not_true, Bool.not_false, Bool.false_eq_true, reduceCtorEq, decide_eq_true h]
  · simp only [dIx_t0, dIx_t1, dIx_l0, dIx_l1, toItems, itemsOf, runF, runL, startE, endF, endL, R.bind_ok, R.bind_exc, R.bind_stuck, gSeq, gIf, gSet, gOwn, gRet, gRetL, gRetO, gDrop, gTgt, gT, gsC, gsN, gN, gFor, gApp, gExt, gFrz, gNil, gExc, eVar, eC, e1, e2, eA, aNil, aCons, eTup, eLst, eCall, lCall, listR, eChain, tV, tAndD, tOrD, tNotD, eAnd, eOr, eNot, eIf, eL, lDisp, lList, lRep, oNone, oSome, eSl, iSeq, iRng1, iRng2, iZipD, iEnumD, iRevD, lListRange, lLc, eSorted, eSortSet, eLenSet, eBor, tBor, tYesD, noE, toB, dCmp, dSub, dNeg, dInt, dLen, dIs, dIsNot, List.map_cons, List.map_nil, List.length_cons, List.length_nil, Nat.reduceAdd, Nat.reduceSub, Nat.reduceLeDiff, List.replicate, List.cons_append, List.nil_append, List.append_nil, List.getElem?_cons_zero, List.getElem?_cons_succ, List.set_cons_zero, List.set_cons_succ, if_true, if_false, reduceIte, Bool.not_true, Bool.not_false, Bool.false_eq_true, reduceCtorEq, decide_eq_false h]
theorem made_step {m : Nat} {w : Wg} (hw : WgOk m w) {cs : List (List Int)} (hc : ∀ c ∈ cs, CaseOk m c) (hl : cs.length ≤ 100) {Rf : List D → PL.R D} (d z wa : Int) (h : Nat) (acc : List D) (ha : acc.length < 100) (s4 s5 s6 s10 : PL.Slot noObj) (P : D)
    (hR : ∀ z', byW w d cs ≠ [] → ∃ q, Rf [P, .list ((byW w d cs).map encC), .int z', .int wa] = .ok (encP q) ∧ ValidP m (byW w d cs) q ∧ hgt q ≤ h) :
    ∃ (q : Pl) (z' : Int) (t10 : PL.Slot noObj), g__law_planned_L1 Rf [.val P, .val (.list (cs.map encC)), .val (.int z), .val (.int wa), s4, s5, s6, .val (encW w), .own acc, .val (.int d), s10, .no] =
      .ok (.nx, [.val P, .val (.list (cs.map encC)), .val (.int z'), .val (.int wa), s4, s5, s6, .val (encW w), .own (acc ++ [encP q]), .val (.int d), t10, .no]) ∧ ValidP m (byW w d cs) q ∧ hgt q ≤ h := by
  have q2 : small64 16807 = true := by decide
  have d1 : ∀ i j, dAdd (.int i) (.int j) = .ok (.int (i + j)) := fun _ _ => rfl
  have hal : acc.length < 100000 := by omega
  cases hb : byW w d cs with
  | nil =>
    refine ⟨.none, (z * 16807 + 5) % 1000003, .val (.list []), ?_, rfl, Nat.zero_le _⟩
    unfold g__law_planned_L1
    simp only [dIx_pick, dMod, dDiv, dList, dTuple, dRev, dSl, Int.reduceLT, Int.reduceLE, Int.reduceEq, Int.reduceSub, Int.reduceAdd, and_self, true_and, and_true, and_false, false_and, Int.cast_ofNat_Int, decide_true, decide_false, Bool.true_and, Bool.false_and, Bool.and_true, Bool.and_false, dIx_t0, dIx_t1, dIx_l0, dIx_l1, toItems, itemsOf, runF, runL, startE, endF, endL, R.bind_ok, R.bind_exc, R.bind_stuck, gSeq, gIf, gSet, gOwn, gRet, gRetL, gRetO, gDrop, gTgt, gT, gsC, gsN, gN, gFor, gApp, gExt, gFrz, gNil, gExc, eVar, eC, e1, e2, eA, aNil, aCons, eTup, eLst, eCall, lCall, listR, eChain, tV, tAndD, tOrD, tNotD, eAnd, eOr, eNot, eIf, eL, lDisp, lList, lRep, oNone, oSome, eSl, iSeq, iRng1, iRng2, iZipD, iEnumD, iRevD, lListRange, lLc, eSorted, eSortSet, eLenSet, eBor, tBor, tYesD, noE, toB, dCmp, dSub, dNeg, dInt, dLen, dIs, dIsNot, List.map_cons, List.map_nil, List.length_cons, List.length_nil, Nat.reduceAdd, Nat.reduceSub, Nat.reduceLeDiff, List.replicate, List.cons_append, List.nil_append, List.append_nil, List.getElem?_cons_zero, List.getElem?_cons_succ, List.set_cons_zero, List.set_cons_succ, if_true, if_false, reduceIte, Bool.not_true, Bool.not_false, Bool.false_eq_true, reduceCtorEq, made_by hw hc hl d, hb, dMul, q2, Bool.or_true, d1, show dEq (.list []) (.list []) = .ok (.bool true) from rfl, hal, encP]
  | cons c r =>
    obtain ⟨q, e, v, hq⟩ := hR ((z * 16807 + 5) % 1000003) (by rw [hb]; simp)
    rw [hb] at e v
    have en : dEq (.list ((c :: r).map encC)) (.list []) = .ok (.bool false) := by rw [dEq_nil]; rfl
    rw [List.map_cons] at e en
    refine ⟨q, (z * 16807 + 5) % 1000003, .val (.list ((c :: r).map encC)), ?_, v, hq⟩
    unfold g__law_planned_L1
    simp only [dIx_pick, dMod, dDiv, dList, dTuple, dRev, dSl, Int.reduceLT, Int.reduceLE, Int.reduceEq, Int.reduceSub, Int.reduceAdd, and_self, true_and, and_true, and_false, false_and, Int.cast_ofNat_Int, decide_true, decide_false, Bool.true_and, Bool.false_and, Bool.and_true, Bool.and_false, dIx_t0, dIx_t1, dIx_l0, dIx_l1, toItems, itemsOf, runF, runL, startE, endF, endL, R.bind_ok, R.bind_exc, R.bind_stuck, gSeq, gIf, gSet, gOwn, gRet, gRetL, gRetO, gDrop, gTgt, gT, gsC, gsN, gN, gFor, gApp, gExt, gFrz, gNil, gExc, eVar, eC, e1, e2, eA, aNil, aCons, eTup, eLst, eCall, lCall, listR, eChain, tV, tAndD, tOrD, tNotD, eAnd, eOr, eNot, eIf, eL, lDisp, lList, lRep, oNone, oSome, eSl, iSeq, iRng1, iRng2, iZipD, iEnumD, iRevD, lListRange, lLc, eSorted, eSortSet, eLenSet, eBor, tBor, tYesD, noE, toB, dCmp, dSub, dNeg, dInt, dLen, dIs, dIsNot, List.map_cons, List.map_nil, List.length_cons, List.length_nil, Nat.reduceAdd, Nat.reduceSub, Nat.reduceLeDiff, List.replicate, List.cons_append, List.nil_append, List.append_nil, List.getElem?_cons_zero, List.getElem?_cons_succ, List.set_cons_zero, List.set_cons_succ, if_true, if_false, reduceIte, Bool.not_true, Bool.not_false, Bool.false_eq_true, reduceCtorEq, made_by hw hc hl d, hb, dMul, q2, Bool.or_true, d1, en, e, hal]
/-- those that part -/
theorem parts_w {m : Nat} (hm : Many m) {cs : List (List Int)} (hc : ∀ c ∈ cs, CaseOk m c) (hl : cs.length ≤ 60) {Rf : List D → PL.R D} (s2 s3 s4 s5 s6 s8 s9 s10 : PL.Slot noObj) :
    c__law_planned_2 Rf [.val (.list ((Ws m).map encW)), .val (.list (cs.map encC)), s2, s3, s4, s5, s6, .no, s8, s9, s10, .no] = .ok (((Ws m).filter fun w => decide ((1 : Int) < (distI (cs.map fun c => cm w c)).length)).map encW) := by
  unfold c__law_planned_2
  simp only [dIx_t0, dIx_t1, dIx_l0, dIx_l1, toItems, itemsOf, runF, runL, startE, endF, endL, R.bind_ok, R.bind_exc, R.bind_stuck, gSeq, gIf, gSet, gOwn, gRet, gRetL, gRetO, gDrop, gTgt, gT, gsC, gsN, gN, gFor, gApp, gExt, gFrz, gNil, gExc, eVar, eC, e1, e2, eA, aNil, aCons, eTup, eLst, eCall, lCall, listR, eChain, tV, tAndD, tOrD, tNotD, eAnd, eOr, eNot, eIf, eL, lDisp, lList, lRep, oNone, oSome, eSl, iSeq, iRng1, iRng2, iZipD, iEnumD, iRevD, lListRange, lLc, eSorted, eSortSet, eLenSet, eBor, tBor, tYesD, noE, toB, dCmp, dSub, dNeg, dInt, dLen, dIs, dIsNot, List.map_cons, List.map_nil, List.length_cons, List.length_nil, Nat.reduceAdd, Nat.reduceSub, Nat.reduceLeDiff, List.replicate, List.cons_append, List.nil_append, List.append_nil, List.getElem?_cons_zero, List.getElem?_cons_succ, List.set_cons_zero, List.set_cons_succ, if_true, if_false, reduceIte, Bool.not_true, Bool.not_false, Bool.false_eq_true, reduceCtorEq]
  rw [if_pos ⟨by rw [List.length_map]; have := (Ws_len hm).2; omega, rfl⟩]
  refine noE_of (each_flt fun w hw => ?_)
  have wok := (lead_of hm hw).ok
  have key : c__law_planned_1 Rf [.val (.list ((Ws m).map encW)), .val (.list (cs.map encC)), s2, s3, s4, s5, s6, .val (encW w), s8, s9, s10, .no] = .ok ((cs.map fun c => cm w c).map PyData.int) := by
    unfold c__law_planned_1
    simp only [dIx_t0, dIx_t1, dIx_l0, dIx_l1, toItems, itemsOf, runF, runL, startE, endF, endL, R.bind_ok, R.bind_exc, R.bind_stuck, gSeq, gIf, gSet, gOwn, gRet, gRetL, gRetO, gDrop, gTgt, gT, gsC, gsN, gN, gFor, gApp, gExt, gFrz, gNil, gExc, eVar, eC, e1, e2, eA, aNil, aCons, eTup, eLst, eCall, lCall, listR, eChain, tV, tAndD, tOrD, tNotD, eAnd, eOr, eNot, eIf, eL, lDisp, lList, lRep, oNone, oSome, eSl, iSeq, iRng1, iRng2, iZipD, iEnumD, iRevD, lListRange, lLc, eSorted, eSortSet, eLenSet, eBor, tBor, tYesD, noE, toB, dCmp, dSub, dNeg, dInt, dLen, dIs, dIsNot, List.map_cons, List.map_nil, List.length_cons, List.length_nil, Nat.reduceAdd, Nat.reduceSub, Nat.reduceLeDiff, List.replicate, List.cons_append, List.nil_append, List.append_nil, List.getElem?_cons_zero, List.getElem?_cons_succ, List.set_cons_zero, List.set_cons_succ, if_true, if_false, reduceIte, Bool.not_true, Bool.not_false, Bool.false_eq_true, reduceCtorEq]
    rw [if_pos ⟨by rw [List.length_map]; omega, rfl⟩, List.map_map]
    refine noE_of (each_map' (h := PyData.int ∘ fun c => cm w c) fun c h => ?_)
    unfold lcStep
    simp only [dIx_t0, dIx_t1, dIx_l0, dIx_l1, toItems, itemsOf, runF, runL, startE, endF, endL, R.bind_ok, R.bind_exc, R.bind_stuck, gSeq, gIf, gSet, gOwn, gRet, gRetL, gRetO, gDrop, gTgt, gT, gsC, gsN, gN, gFor, gApp, gExt, gFrz, gNil, gExc, eVar, eC, e1, e2, eA, aNil, aCons, eTup, eLst, eCall, lCall, listR, eChain, tV, tAndD, tOrD, tNotD, eAnd, eOr, eNot, eIf, eL, lDisp, lList, lRep, oNone, oSome, eSl, iSeq, iRng1, iRng2, iZipD, iEnumD, iRevD, lListRange, lLc, eSorted, eSortSet, eLenSet, eBor, tBor, tYesD, noE, toB, dCmp, dSub, dNeg, dInt, dLen, dIs, dIsNot, List.map_cons, List.map_nil, List.length_cons, List.length_nil, Nat.reduceAdd, Nat.reduceSub, Nat.reduceLeDiff, List.replicate, List.cons_append, List.nil_append, List.append_nil, List.getElem?_cons_zero, List.getElem?_cons_succ, List.set_cons_zero, List.set_cons_succ, if_true, if_false, reduceIte, Bool.not_true, Bool.not_false, Bool.false_eq_true, reduceCtorEq, wipeE, lcame_eq wok (hc c h)]
    rfl
  have hlen : (cs.map fun c => cm w c).length ≤ 60 := by rw [List.length_map]; exact hl
  unfold lcStep
  simp only [dIx_t0, dIx_t1, dIx_l0, dIx_l1, toItems, itemsOf, runF, runL, startE, endF, endL, R.bind_ok, R.bind_exc, R.bind_stuck, gSeq, gIf, gSet, gOwn, gRet, gRetL, gRetO, gDrop, gTgt, gT, gsC, gsN, gN, gFor, gApp, gExt, gFrz, gNil, gExc, eVar, eC, e1, e2, eA, aNil, aCons, eTup, eLst, eCall, lCall, listR, eChain, tV, tAndD, tOrD, tNotD, eAnd, eOr, eNot, eIf, eL, lDisp, lList, lRep, oNone, oSome, eSl, iSeq, iRng1, iRng2, iZipD, iEnumD, iRevD, lListRange, lLc, eSorted, eSortSet, eLenSet, eBor, tBor, tYesD, noE, toB, dCmp, dSub, dNeg, dInt, dLen, dIs, dIsNot, List.map_cons, List.map_nil, List.length_cons, List.length_nil, Nat.reduceAdd, Nat.reduceSub, Nat.reduceLeDiff, List.replicate, List.cons_append, List.nil_append, List.append_nil, List.getElem?_cons_zero, List.getElem?_cons_succ, List.set_cons_zero, List.set_cons_succ, if_true, if_false, reduceIte, Bool.not_true, Bool.not_false, Bool.false_eq_true, reduceCtorEq, wipeE, eLenSetL, key, setIntsL, intsOf_map, hlen]
  by_cases h : (1 : Int) < (distI (cs.map fun c => cm w c)).length
  · simp only [dIx_t0, dIx_t1, dIx_l0, dIx_l1, toItems, itemsOf, runF, runL, startE, endF, endL, R.bind_ok, R.bind_exc, R.bind_stuck, gSeq, gIf, gSet, gOwn, gRet, gRetL, gRetO, gDrop, gTgt, gT, gsC, gsN, gN, gFor, gApp, gExt, gFrz, gNil, gExc, eVar, eC, e1, e2, eA, aNil, aCons, eTup, eLst, eCall, lCall, listR, eChain, tV, tAndD, tOrD, tNotD, eAnd, eOr, eNot, eIf, eL, lDisp, lList, lRep, oNone, oSome, eSl, iSeq, iRng1, iRng2, iZipD, iEnumD, iRevD, lListRange, lLc, eSorted, eSortSet, eLenSet, eBor, tBor, tYesD, noE, toB, dCmp, dSub, dNeg, dInt, dLen, dIs, dIsNot, List.map_cons, List.map_nil, List.length_cons, List.length_nil, Nat.reduceAdd, Nat.reduceSub, Nat.reduceLeDiff, List.replicate, List.cons_append, List.nil_append, List.append_nil, List.getElem?_cons_zero, List.getElem?_cons_succ, List.set_cons_zero, List.set_cons_succ, if_true, if_false, reduceIte, Bool.not_true, Bool.not_false, Bool.false_eq_true, reduceCtorEq, decide_eq_true h]
  · simp only [dIx_t0, dIx_t1, dIx_l0, dIx_l1, toItems, itemsOf, runF, runL, startE, endF, endL, R.bind_ok, R.bind_exc, R.bind_stuck, gSeq, gIf, gSet, gOwn, gRet, gRetL, gRetO, gDrop, gTgt, gT, gsC, gsN, gN, gFor, gApp, gExt, gFrz, gNil, gExc, eVar, eC, e1, e2, eA, aNil, aCons, eTup, eLst, eCall, lCall, listR, eChain, tV, tAndD, tOrD, tNotD, eAnd, eOr, eNot, eIf, eL, lDisp, lList, lRep, oNone, oSome, eSl, iSeq, iRng1, iRng2, iZipD, iEnumD, iRevD, lListRange, lLc, eSorted, eSortSet, eLenSet, eBor, tBor, tYesD, noE, toB, dCmp, dSub, dNeg, dInt, dLen, dIs, dIsNot, List.map_cons, List.map_nil, List.length_cons, List.length_nil, Nat.reduceAdd, Nat.reduceSub, Nat.reduceLeDiff, List.replicate, List.cons_append, List.nil_append, List.append_nil, List.getElem?_cons_zero, List.getElem?_cons_succ, List.set_cons_zero, List.set_cons_succ, if_true, if_false, reduceIte, Bool.not_true, Bool.not_false, Bool.false_eq_true, reduceCtorEq, decide_eq_false h]
theorem dist_two {l : List Int} {a b : Int} (ha : a ∈ l) (hb : b ∈ l) (ne : a ≠ b) : (1 : Int) < (distI l).length := by
  have h1 := (distI_mem (l := l)).mpr ha
  have h2 := (distI_mem (l := l)).mpr hb
  cases hd : distI l with
  | nil => rw [hd] at h1; simp at h1
  | cons x r =>
    cases r with
    | nil =>
      rw [hd] at h1 h2
      simp only [List.mem_singleton] at h1 h2
      exact absurd (h1.trans h2.symm) ne
    | cons y r => simp only [List.length_cons]; omega
theorem two_dist {l : List Int} (h : (1 : Int) < (distI l).length) : ∃ a ∈ l, ∃ b ∈ l, a ≠ b := by
  have up := distI_up l
  cases hd : distI l with
  | nil => rw [hd] at h; simp at h
  | cons x r =>
    cases r with
    | nil => rw [hd] at h; simp at h
    | cons y r =>
      have hx : x ∈ l := distI_mem.mp (by rw [hd]; simp)
      have hy : y ∈ l := distI_mem.mp (by rw [hd]; simp)
      rw [hd] at up
      have := (List.pairwise_cons.mp up).1 y (by simp)
      exact ⟨x, hx, y, hy, by omega⟩
theorem by_lt {w : Wg} {cs : List (List Int)} (h : ∃ a ∈ cs, ∃ b ∈ cs, cm w a ≠ cm w b) (d : Int) : (byW w d cs).length < cs.length := by
  obtain ⟨a, ha, b, hb, ne⟩ := h
  have : ∃ c ∈ cs, ¬ (decide (cm w c = d)) = true := by
    by_cases e : cm w a = d
    · exact ⟨b, hb, by simp; intro z; exact ne (e.trans z.symm)⟩
    · exact ⟨a, ha, by simpa using e⟩
  obtain ⟨c, hc, hn⟩ := this
  exact List.length_filter_lt_length_iff_exists.mpr ⟨c, hc, hn⟩
theorem cm_swap_ne {w : Wg} {a b : List Int} : cm (swapW w) a ≠ cm (swapW w) b ↔ cm w a ≠ cm w b := by
  rw [cm_swap, cm_swap]
  constructor <;> intro h z <;> exact h (by omega)
/-- the weighing, its three parts -/
theorem made_tail {m : Nat} (hm : Many m) {cs : List (List Int)} (hc : ∀ c ∈ cs, CaseOk m c) (hcs : cs ≠ []) (hl : cs.length ≤ 60) {Rf : List D → PL.R D} {ws : List Wg} (hws : ∀ w ∈ ws, w ∈ Ws m) (hne : ws ≠ []) (z wa : Int) (h : Nat)
    (hR : ∀ w, (∃ v ∈ ws, w = v ∨ w = swapW v) → ∀ d z', byW w d cs ≠ [] → ∃ q, Rf [.list ((Ws m).map encW), .list ((byW w d cs).map encC), .int z', .int wa] = .ok (encP q) ∧ ValidP m (byW w d cs) q ∧ hgt q ≤ h) :
    ∃ (q : Pl), (∃ ρ' : Env noObj, (gSeq (gTgt (e2 dIx (eVar 4) (e2 dMod (e2 dDiv (eVar 2) (eC (.int 7))) (eA dLen (aCons (eVar 4) aNil)))) (gT 2 (gsC (gN 5) (gsC (gN 6) gsN)))) (gSeq (gSet 7 (e2 dIx (eLst (aCons (eTup (aCons (eVar 5) (aCons (eVar 6) aNil))) (aCons (eTup (aCons (eVar 6) (aCons (eVar 5) aNil))) aNil))) (e2 dMod (e2 dDiv (eVar 2) (eC (.int 200))) (eC (.int 2))))) (gSeq (gOwn 8 (lDisp aNil)) (gSeq (gFor (iSeq (eLst (aCons (e1 dNeg (eC (.int 1))) (aCons (eC (.int 0)) (aCons (eC (.int 1)) aNil))))) (gN 9) (g__law_planned_L1 Rf)) (gFrz 8 (gRet (eTup (aCons (eC (.str (Str.ofString "weigh"))) (aCons (eVar 7) (aCons (eA dTuple (aCons (eVar 8) aNil)) aNil))))))))))
        [.val (.list ((Ws m).map encW)), .val (.list (cs.map encC)), .val (.int z), .val (.int wa), .val (.list (ws.map encW)), .no, .no, .no, .no, .no, .no, .no] = .ok (.rt (encP q), ρ')) ∧ ValidP m cs q ∧ hgt q ≤ h + 1 := by
  have q0 : (0 : Int) < (ws.length : Nat) := by have := List.length_pos_iff.mpr hne; omega
  have q1 : ((ws.map encW).length : Int) = (ws.length : Nat) := by rw [List.length_map]
  obtain ⟨v, hv, ev⟩ := List.mem_map.mp (pick_mem (c := z / 7) q1 q0)
  have mem2 := pick_mem (xs := [PyData.tuple [.tuple (v.1.map PyData.int), .tuple (v.2.map PyData.int)], .tuple [.tuple (v.2.map PyData.int), .tuple (v.1.map PyData.int)]]) (c := z / 200) (k := 2) rfl (by decide)
  obtain ⟨w, hw, hwl, ew⟩ : ∃ w : Wg, (∃ v ∈ ws, w = v ∨ w = swapW v) ∧ Lead m w ∧ pick [PyData.tuple [.tuple (v.1.map PyData.int), .tuple (v.2.map PyData.int)], .tuple [.tuple (v.2.map PyData.int), .tuple (v.1.map PyData.int)]] (z / 200) 2 = encW w := by
    simp only [List.mem_cons, List.not_mem_nil, or_false] at mem2
    rcases mem2 with e | e
    · exact ⟨v, ⟨v, hv, .inl rfl⟩, lead_of hm (hws v hv), e⟩
    · exact ⟨swapW v, ⟨v, hv, .inr rfl⟩, lead_swap hm (hws v hv), e⟩
  obtain ⟨l, z1, t1, e1', v1, h1⟩ := made_step hwl.ok hc (by omega) (Rf := Rf) (-1) z wa h [] (by decide) (.val (.list (ws.map encW))) (.val (.tuple (v.1.map PyData.int))) (.val (.tuple (v.2.map PyData.int))) .no (.list ((Ws m).map encW)) (hR w hw (-1))
  obtain ⟨e, z2, t2, e2', v2, h2⟩ := made_step hwl.ok hc (by omega) (Rf := Rf) 0 z1 wa h [encP l] (by simp) (.val (.list (ws.map encW))) (.val (.tuple (v.1.map PyData.int))) (.val (.tuple (v.2.map PyData.int))) t1 (.list ((Ws m).map encW)) (hR w hw 0)
  obtain ⟨r, z3, t3, e3', v3, h3⟩ := made_step hwl.ok hc (by omega) (Rf := Rf) 1 z2 wa h [encP l, encP e] (by simp) (.val (.list (ws.map encW))) (.val (.tuple (v.1.map PyData.int))) (.val (.tuple (v.2.map PyData.int))) t2 (.list ((Ws m).map encW)) (hR w hw 1)
  simp only [List.nil_append, List.cons_append] at e1' e2' e3'
  refine ⟨.weigh w l e r, ?eq, ⟨hcs, hwl.is, hwl.look, v1, v2, v3⟩, by simp only [hgt]; omega⟩
  case eq =>
    simp only [dIx_pick, dMod, dDiv, dList, dTuple, dRev, dSl, Int.reduceLT, Int.reduceLE, Int.reduceEq, Int.reduceSub, Int.reduceAdd, and_self, true_and, and_true, and_false, false_and, Int.cast_ofNat_Int, decide_true, decide_false, Bool.true_and, Bool.false_and, Bool.and_true, Bool.and_false, dIx_t0, dIx_t1, dIx_l0, dIx_l1, toItems, itemsOf, runF, runL, startE, endF, endL, R.bind_ok, R.bind_exc, R.bind_stuck, gSeq, gIf, gSet, gOwn, gRet, gRetL, gRetO, gDrop, gTgt, gT, gsC, gsN, gN, gFor, gApp, gExt, gFrz, gNil, gExc, eVar, eC, e1, e2, eA, aNil, aCons, eTup, eLst, eCall, lCall, listR, eChain, tV, tAndD, tOrD, tNotD, eAnd, eOr, eNot, eIf, eL, lDisp, lList, lRep, oNone, oSome, eSl, iSeq, iRng1, iRng2, iZipD, iEnumD, iRevD, lListRange, lLc, eSorted, eSortSet, eLenSet, eBor, tBor, tYesD, noE, toB, dCmp, dSub, dNeg, dInt, dLen, dIs, dIsNot, List.map_cons, List.map_nil, List.length_cons, List.length_nil, Nat.reduceAdd, Nat.reduceSub, Nat.reduceLeDiff, List.replicate, List.cons_append, List.nil_append, List.append_nil, List.getElem?_cons_zero, List.getElem?_cons_succ, List.set_cons_zero, List.set_cons_succ, if_true, if_false, reduceIte, Bool.not_true, Bool.not_false, Bool.false_eq_true, reduceCtorEq, List.length_map, q0]
    rw [← ev, show encW v = .tuple [.tuple (v.1.map PyData.int), .tuple (v.2.map PyData.int)] from rfl]
    simp only [dIx_pick, dMod, dDiv, dList, dTuple, dRev, dSl, Int.reduceLT, Int.reduceLE, Int.reduceEq, Int.reduceSub, Int.reduceAdd, and_self, true_and, and_true, and_false, false_and, Int.cast_ofNat_Int, decide_true, decide_false, Bool.true_and, Bool.false_and, Bool.and_true, Bool.and_false, dIx_t0, dIx_t1, dIx_l0, dIx_l1, toItems, itemsOf, runF, runL, startE, endF, endL, R.bind_ok, R.bind_exc, R.bind_stuck, gSeq, gIf, gSet, gOwn, gRet, gRetL, gRetO, gDrop, gTgt, gT, gsC, gsN, gN, gFor, gApp, gExt, gFrz, gNil, gExc, eVar, eC, e1, e2, eA, aNil, aCons, eTup, eLst, eCall, lCall, listR, eChain, tV, tAndD, tOrD, tNotD, eAnd, eOr, eNot, eIf, eL, lDisp, lList, lRep, oNone, oSome, eSl, iSeq, iRng1, iRng2, iZipD, iEnumD, iRevD, lListRange, lLc, eSorted, eSortSet, eLenSet, eBor, tBor, tYesD, noE, toB, dCmp, dSub, dNeg, dInt, dLen, dIs, dIsNot, List.map_cons, List.map_nil, List.length_cons, List.length_nil, Nat.reduceAdd, Nat.reduceSub, Nat.reduceLeDiff, List.replicate, List.cons_append, List.nil_append, List.append_nil, List.getElem?_cons_zero, List.getElem?_cons_succ, List.set_cons_zero, List.set_cons_succ, if_true, if_false, reduceIte, Bool.not_true, Bool.not_false, Bool.false_eq_true, reduceCtorEq, ew, Int.reduceNeg, loopF, e1', e2', e3']
    exact ⟨_, rfl⟩
theorem planned_ok {m : Nat} (hm : Many m) : ∀ (n : Nat) (cs : List (List Int)) (z : Int) (wa : Nat), (∀ c ∈ cs, CaseOk m c) → cs ≠ [] → Apart m cs → cs.length + wa ≤ n → cs.length ≤ 60 →
    ∃ q, F__law_planned n [.list ((Ws m).map encW), .list (cs.map encC), .int z, .int wa] = .ok (encP q) ∧ ValidP m cs q ∧ hgt q ≤ cs.length + wa
  | 0, cs, z, wa, _, hcs, _, hn, _ => by
    have := List.length_pos_iff.mpr hcs
    omega
  | n + 1, cs, z, wa, hc, hcs, ha, hn, hl => by
    have hpos := List.length_pos_iff.mpr hcs
    have sub : ∀ w d, ∀ c ∈ byW w d cs, CaseOk m c := fun w d c h => hc c (by_sub c h)
    have suba : ∀ w d, Apart m (byW w d cs) := fun w d => ha.sublist List.filter_sublist
    have subl : ∀ w d, (byW w d cs).length ≤ cs.length := fun w d => List.length_filter_le _ _
    by_cases hcond : (0 : Int) < z % 7 ∨ wa = 0
    · -- not wasted
      have tcond : ∀ (ρ : Env noObj), ((tOrD (tV (e2 dGt (e2 dMod (eVar 2) (eC (.int 7))) (eC (.int 0)))) (tV (e2 dEq (eVar 3) (eC (.int 0)))) : Env noObj → PL.R Bool) (.val (.list ((Ws m).map encW)) :: .val (.list (cs.map encC)) :: .val (.int z) :: .val (.int wa) :: ρ)) = .ok true := fun ρ => by
        simp only [dIx_pick, dMod, dDiv, dList, dTuple, dRev, dSl, Int.reduceLT, Int.reduceLE, Int.reduceEq, Int.reduceSub, Int.reduceAdd, and_self, true_and, and_true, and_false, false_and, Int.cast_ofNat_Int, decide_true, decide_false, Bool.true_and, Bool.false_and, Bool.and_true, Bool.and_false, dIx_t0, dIx_t1, dIx_l0, dIx_l1, toItems, itemsOf, runF, runL, startE, endF, endL, R.bind_ok, R.bind_exc, R.bind_stuck, gSeq, gIf, gSet, gOwn, gRet, gRetL, gRetO, gDrop, gTgt, gT, gsC, gsN, gN, gFor, gApp, gExt, gFrz, gNil, gExc, eVar, eC, e1, e2, eA, aNil, aCons, eTup, eLst, eCall, lCall, listR, eChain, tV, tAndD, tOrD, tNotD, eAnd, eOr, eNot, eIf, eL, lDisp, lList, lRep, oNone, oSome, eSl, iSeq, iRng1, iRng2, iZipD, iEnumD, iRevD, lListRange, lLc, eSorted, eSortSet, eLenSet, eBor, tBor, tYesD, noE, toB, dCmp, dSub, dNeg, dInt, dLen, dIs, dIsNot, List.map_cons, List.map_nil, List.length_cons, List.length_nil, Nat.reduceAdd, Nat.reduceSub, Nat.reduceLeDiff, List.replicate, List.cons_append, List.nil_append, List.append_nil, List.getElem?_cons_zero, List.getElem?_cons_succ, List.set_cons_zero, List.set_cons_succ, if_true, if_false, reduceIte, Bool.not_true, Bool.not_false, Bool.false_eq_true, reduceCtorEq, dEq_int]
        by_cases h7 : (0 : Int) < z % 7
        · simp only [dIx_t0, dIx_t1, dIx_l0, dIx_l1, toItems, itemsOf, runF, runL, startE, endF, endL, R.bind_ok, R.bind_exc, R.bind_stuck, gSeq, gIf, gSet, gOwn, gRet, gRetL, gRetO, gDrop, gTgt, gT, gsC, gsN, gN, gFor, gApp, gExt, gFrz, gNil, gExc, eVar, eC, e1, e2, eA, aNil, aCons, eTup, eLst, eCall, lCall, listR, eChain, tV, tAndD, tOrD, tNotD, eAnd, eOr, eNot, eIf, eL, lDisp, lList, lRep, oNone, oSome, eSl, iSeq, iRng1, iRng2, iZipD, iEnumD, iRevD, lListRange, lLc, eSorted, eSortSet, eLenSet, eBor, tBor, tYesD, noE, toB, dCmp, dSub, dNeg, dInt, dLen, dIs, dIsNot, List.map_cons, List.map_nil, List.length_cons, List.length_nil, Nat.reduceAdd, Nat.reduceSub, Nat.reduceLeDiff, List.replicate, List.cons_append, List.nil_append, List.append_nil, List.getElem?_cons_zero, List.getElem?_cons_succ, List.set_cons_zero, List.set_cons_succ, if_true, if_false, reduceIte, Bool.not_true, Bool.not_false, Bool.false_eq_true, reduceCtorEq, decide_eq_true h7]
        · have h0 : (wa : Int) = 0 := by rcases hcond with h | h; exact absurd h h7; omega
          simp only [dIx_t0, dIx_t1, dIx_l0, dIx_l1, toItems, itemsOf, runF, runL, startE, endF, endL, R.bind_ok, R.bind_exc, R.bind_stuck, gSeq, gIf, gSet, gOwn, gRet, gRetL, gRetO, gDrop, gTgt, gT, gsC, gsN, gN, gFor, gApp, gExt, gFrz, gNil, gExc, eVar, eC, e1, e2, eA, aNil, aCons, eTup, eLst, eCall, lCall, listR, eChain, tV, tAndD, tOrD, tNotD, eAnd, eOr, eNot, eIf, eL, lDisp, lList, lRep, oNone, oSome, eSl, iSeq, iRng1, iRng2, iZipD, iEnumD, iRevD, lListRange, lLc, eSorted, eSortSet, eLenSet, eBor, tBor, tYesD, noE, toB, dCmp, dSub, dNeg, dInt, dLen, dIs, dIsNot, List.map_cons, List.map_nil, List.length_cons, List.length_nil, Nat.reduceAdd, Nat.reduceSub, Nat.reduceLeDiff, List.replicate, List.cons_append, List.nil_append, List.append_nil, List.getElem?_cons_zero, List.getElem?_cons_succ, List.set_cons_zero, List.set_cons_succ, if_true, if_false, reduceIte, Bool.not_true, Bool.not_false, Bool.false_eq_true, reduceCtorEq, decide_eq_false h7, decide_eq_true h0]
      by_cases h1 : cs.length = 1
      · obtain ⟨c, rfl⟩ := List.length_eq_one_iff.mp h1
        refine ⟨.told c, ?_, rfl, by simp [hgt]⟩
        show runF 12 (g__law_planned (F__law_planned n)) _ = _
        unfold g__law_planned
        generalize hC : (tOrD (tV (e2 dGt (e2 dMod (eVar 2) (eC (.int 7))) (eC (.int 0)))) (tV (e2 dEq (eVar 3) (eC (.int 0)))) : Env noObj → PL.R Bool) = C at tcond ⊢
        generalize hT : ((gSeq (gTgt (e2 dIx (eVar 4) (e2 dMod (e2 dDiv (eVar 2) (eC (.int 7))) (eA dLen (aCons (eVar 4) aNil)))) (gT 2 (gsC (gN 5) (gsC (gN 6) gsN)))) (gSeq (gSet 7 (e2 dIx (eLst (aCons (eTup (aCons (eVar 5) (aCons (eVar 6) aNil))) (aCons (eTup (aCons (eVar 6) (aCons (eVar 5) aNil))) aNil))) (e2 dMod (e2 dDiv (eVar 2) (eC (.int 200))) (eC (.int 2))))) (gSeq (gOwn 8 (lDisp aNil)) (gSeq (gFor (iSeq (eLst (aCons (e1 dNeg (eC (.int 1))) (aCons (eC (.int 0)) (aCons (eC (.int 1)) aNil))))) (gN 9) (g__law_planned_L1 (F__law_planned n))) (gFrz 8 (gRet (eTup (aCons (eC (.str (Str.ofString "weigh"))) (aCons (eVar 7) (aCons (eA dTuple (aCons (eVar 8) aNil)) aNil)))))))))) : GS noObj) = T
        simp only [List.map_cons, List.map_nil] at tcond
        simp only [dIx_pick, dMod, dDiv, dList, dTuple, dRev, dSl, Int.reduceLT, Int.reduceLE, Int.reduceEq, Int.reduceSub, Int.reduceAdd, and_self, true_and, and_true, and_false, false_and, Int.cast_ofNat_Int, decide_true, decide_false, Bool.true_and, Bool.false_and, Bool.and_true, Bool.and_false, dIx_t0, dIx_t1, dIx_l0, dIx_l1, toItems, itemsOf, runF, runL, startE, endF, endL, R.bind_ok, R.bind_exc, R.bind_stuck, gSeq, gIf, gSet, gOwn, gRet, gRetL, gRetO, gDrop, gTgt, gT, gsC, gsN, gN, gFor, gApp, gExt, gFrz, gNil, gExc, eVar, eC, e1, e2, eA, aNil, aCons, eTup, eLst, eCall, lCall, listR, eChain, tV, tAndD, tOrD, tNotD, eAnd, eOr, eNot, eIf, eL, lDisp, lList, lRep, oNone, oSome, eSl, iSeq, iRng1, iRng2, iZipD, iEnumD, iRevD, lListRange, lLc, eSorted, eSortSet, eLenSet, eBor, tBor, tYesD, noE, toB, dCmp, dSub, dNeg, dInt, dLen, dIs, dIsNot, List.map_cons, List.map_nil, List.length_cons, List.length_nil, Nat.reduceAdd, Nat.reduceSub, Nat.reduceLeDiff, List.replicate, List.cons_append, List.nil_append, List.append_nil, List.getElem?_cons_zero, List.getElem?_cons_succ, List.set_cons_zero, List.set_cons_succ, if_true, if_false, reduceIte, Bool.not_true, Bool.not_false, Bool.false_eq_true, reduceCtorEq, tcond, dEq_int, encP]
      · -- two of them, parted
        obtain ⟨a, b, r, rfl⟩ : ∃ a b r, cs = a :: b :: r := by
          match cs, hpos, h1 with
          | [_], _, h1 => exact absurd rfl h1
          | a :: b :: r, _, _ => exact ⟨a, b, r, rfl⟩
        obtain ⟨w0, hw0, ne0⟩ := (List.pairwise_cons.mp ha).1 b (by simp)
        have hws : ∀ w ∈ (Ws m).filter (fun w => decide ((1 : Int) < (distI ((a :: b :: r).map fun c => cm w c)).length)), w ∈ Ws m := fun w h => (List.mem_filter.mp h).1
        have hne : (Ws m).filter (fun w => decide ((1 : Int) < (distI ((a :: b :: r).map fun c => cm w c)).length)) ≠ [] :=
          List.ne_nil_of_mem (List.mem_filter.mpr ⟨hw0, decide_eq_true (dist_two (a := cm w0 a) (b := cm w0 b) (List.mem_map_of_mem (by simp)) (List.mem_map_of_mem (by simp)) ne0)⟩)
        obtain ⟨q, ⟨ρ', eq⟩, hv, hh⟩ := made_tail hm hc hcs hl (Rf := F__law_planned n) hws hne z wa ((a :: b :: r).length - 1 + wa) fun w hw d z' hb => by
          obtain ⟨v, hv, hvw⟩ := hw
          have h2 := two_dist (of_decide_eq_true (List.mem_filter.mp hv).2)
          have h3 : ∃ x ∈ (a :: b :: r), ∃ y ∈ (a :: b :: r), cm v x ≠ cm v y := by
            obtain ⟨p, hp, p', hp', np⟩ := h2
            obtain ⟨x, hx, rfl⟩ := List.mem_map.mp hp
            obtain ⟨y, hy, rfl⟩ := List.mem_map.mp hp'
            exact ⟨x, hx, y, hy, np⟩
          have h4 : ∃ x ∈ (a :: b :: r), ∃ y ∈ (a :: b :: r), cm w x ≠ cm w y := by
            rcases hvw with rfl | rfl
            · exact h3
            · obtain ⟨x, hx, y, hy, np⟩ := h3
              exact ⟨x, hx, y, hy, cm_swap_ne.mpr np⟩
          have hlt := by_lt h4 d
          obtain ⟨q, e, v1, v2⟩ := planned_ok hm n (byW w d (a :: b :: r)) z' wa (sub w d) hb (suba w d) (by omega) (by omega)
          exact ⟨q, e, v1, by omega⟩
        refine ⟨q, ?_, hv, by omega⟩
        show runF 12 (g__law_planned (F__law_planned n)) _ = _
        unfold g__law_planned
        generalize hC : (tOrD (tV (e2 dGt (e2 dMod (eVar 2) (eC (.int 7))) (eC (.int 0)))) (tV (e2 dEq (eVar 3) (eC (.int 0)))) : Env noObj → PL.R Bool) = C at tcond ⊢
        generalize hT : ((gSeq (gTgt (e2 dIx (eVar 4) (e2 dMod (e2 dDiv (eVar 2) (eC (.int 7))) (eA dLen (aCons (eVar 4) aNil)))) (gT 2 (gsC (gN 5) (gsC (gN 6) gsN)))) (gSeq (gSet 7 (e2 dIx (eLst (aCons (eTup (aCons (eVar 5) (aCons (eVar 6) aNil))) (aCons (eTup (aCons (eVar 6) (aCons (eVar 5) aNil))) aNil))) (e2 dMod (e2 dDiv (eVar 2) (eC (.int 200))) (eC (.int 2))))) (gSeq (gOwn 8 (lDisp aNil)) (gSeq (gFor (iSeq (eLst (aCons (e1 dNeg (eC (.int 1))) (aCons (eC (.int 0)) (aCons (eC (.int 1)) aNil))))) (gN 9) (g__law_planned_L1 (F__law_planned n))) (gFrz 8 (gRet (eTup (aCons (eC (.str (Str.ofString "weigh"))) (aCons (eVar 7) (aCons (eA dTuple (aCons (eVar 8) aNil)) aNil)))))))))) : GS noObj) = T at eq ⊢
        have e1' : ¬ ((((a :: b :: r).map encC).length : Int) = 1) := by rw [List.length_map, List.length_cons, List.length_cons]; omega
        have pw := fun s5 s6 s8 s9 s10 => parts_w hm hc hl (Rf := F__law_planned n) (.val (.int z)) (.val (.int wa)) (.val (.list ((Ws m).map encW))) s5 s6 s8 s9 s10
        generalize (a :: b :: r) = cs at pw eq e1' tcond ⊢
        simp only [dIx_pick, dMod, dDiv, dList, dTuple, dRev, dSl, Int.reduceLT, Int.reduceLE, Int.reduceEq, Int.reduceSub, Int.reduceAdd, and_self, true_and, and_true, and_false, false_and, Int.cast_ofNat_Int, decide_true, decide_false, Bool.true_and, Bool.false_and, Bool.and_true, Bool.and_false, dIx_t0, dIx_t1, dIx_l0, dIx_l1, toItems, itemsOf, runF, runL, startE, endF, endL, R.bind_ok, R.bind_exc, R.bind_stuck, gSeq, gIf, gSet, gOwn, gRet, gRetL, gRetO, gDrop, gTgt, gT, gsC, gsN, gN, gFor, gApp, gExt, gFrz, gNil, gExc, eVar, eC, e1, e2, eA, aNil, aCons, eTup, eLst, eCall, lCall, listR, eChain, tV, tAndD, tOrD, tNotD, eAnd, eOr, eNot, eIf, eL, lDisp, lList, lRep, oNone, oSome, eSl, iSeq, iRng1, iRng2, iZipD, iEnumD, iRevD, lListRange, lLc, eSorted, eSortSet, eLenSet, eBor, tBor, tYesD, noE, toB, dCmp, dSub, dNeg, dInt, dLen, dIs, dIsNot, List.map_cons, List.map_nil, List.length_cons, List.length_nil, Nat.reduceAdd, Nat.reduceSub, Nat.reduceLeDiff, List.replicate, List.cons_append, List.nil_append, List.append_nil, List.getElem?_cons_zero, List.getElem?_cons_succ, List.set_cons_zero, List.set_cons_succ, if_true, if_false, reduceIte, Bool.not_true, Bool.not_false, Bool.false_eq_true, reduceCtorEq, tcond, dEq_int, decide_eq_false e1', pw, eq]
    · -- wasted
      have h7 : ¬ (0 : Int) < z % 7 := fun h => hcond (.inl h)
      have h0 : wa ≠ 0 := fun h => hcond (.inr h)
      obtain ⟨wb, rfl⟩ : ∃ wb, wa = wb + 1 := ⟨wa - 1, by omega⟩
      have tcond : ∀ (ρ : Env noObj), ((tOrD (tV (e2 dGt (e2 dMod (eVar 2) (eC (.int 7))) (eC (.int 0)))) (tV (e2 dEq (eVar 3) (eC (.int 0)))) : Env noObj → PL.R Bool) (.val (.list ((Ws m).map encW)) :: .val (.list (cs.map encC)) :: .val (.int z) :: .val (.int ((wb + 1 : Nat) : Int)) :: ρ)) = .ok false := fun ρ => by
        have h0' : ¬ (((wb + 1 : Nat) : Int) = 0) := by omega
        simp only [dIx_pick, dMod, dDiv, dList, dTuple, dRev, dSl, Int.reduceLT, Int.reduceLE, Int.reduceEq, Int.reduceSub, Int.reduceAdd, and_self, true_and, and_true, and_false, false_and, Int.cast_ofNat_Int, decide_true, decide_false, Bool.true_and, Bool.false_and, Bool.and_true, Bool.and_false, dIx_t0, dIx_t1, dIx_l0, dIx_l1, toItems, itemsOf, runF, runL, startE, endF, endL, R.bind_ok, R.bind_exc, R.bind_stuck, gSeq, gIf, gSet, gOwn, gRet, gRetL, gRetO, gDrop, gTgt, gT, gsC, gsN, gN, gFor, gApp, gExt, gFrz, gNil, gExc, eVar, eC, e1, e2, eA, aNil, aCons, eTup, eLst, eCall, lCall, listR, eChain, tV, tAndD, tOrD, tNotD, eAnd, eOr, eNot, eIf, eL, lDisp, lList, lRep, oNone, oSome, eSl, iSeq, iRng1, iRng2, iZipD, iEnumD, iRevD, lListRange, lLc, eSorted, eSortSet, eLenSet, eBor, tBor, tYesD, noE, toB, dCmp, dSub, dNeg, dInt, dLen, dIs, dIsNot, List.map_cons, List.map_nil, List.length_cons, List.length_nil, Nat.reduceAdd, Nat.reduceSub, Nat.reduceLeDiff, List.replicate, List.cons_append, List.nil_append, List.append_nil, List.getElem?_cons_zero, List.getElem?_cons_succ, List.set_cons_zero, List.set_cons_succ, if_true, if_false, reduceIte, Bool.not_true, Bool.not_false, Bool.false_eq_true, reduceCtorEq, dEq_int, decide_eq_false h7, decide_eq_false h0']
      have wsne : Ws m ≠ [] := List.length_pos_iff.mp (Ws_len hm).1
      obtain ⟨q, ⟨ρ', eq⟩, hv, hh⟩ := made_tail hm hc hcs hl (Rf := F__law_planned n) (fun w h => h) wsne z wb (cs.length + wb) fun w hw d z' hb => by
        have hle := subl w d
        obtain ⟨q, e, v1, v2⟩ := planned_ok hm n (byW w d cs) z' wb (sub w d) hb (suba w d) (by omega) (by omega)
        exact ⟨q, e, v1, by omega⟩
      refine ⟨q, ?_, hv, by omega⟩
      show runF 12 (g__law_planned (F__law_planned n)) _ = _
      unfold g__law_planned
      generalize hC : (tOrD (tV (e2 dGt (e2 dMod (eVar 2) (eC (.int 7))) (eC (.int 0)))) (tV (e2 dEq (eVar 3) (eC (.int 0)))) : Env noObj → PL.R Bool) = C at tcond ⊢
      generalize hT : ((gSeq (gTgt (e2 dIx (eVar 4) (e2 dMod (e2 dDiv (eVar 2) (eC (.int 7))) (eA dLen (aCons (eVar 4) aNil)))) (gT 2 (gsC (gN 5) (gsC (gN 6) gsN)))) (gSeq (gSet 7 (e2 dIx (eLst (aCons (eTup (aCons (eVar 5) (aCons (eVar 6) aNil))) (aCons (eTup (aCons (eVar 6) (aCons (eVar 5) aNil))) aNil))) (e2 dMod (e2 dDiv (eVar 2) (eC (.int 200))) (eC (.int 2))))) (gSeq (gOwn 8 (lDisp aNil)) (gSeq (gFor (iSeq (eLst (aCons (e1 dNeg (eC (.int 1))) (aCons (eC (.int 0)) (aCons (eC (.int 1)) aNil))))) (gN 9) (g__law_planned_L1 (F__law_planned n))) (gFrz 8 (gRet (eTup (aCons (eC (.str (Str.ofString "weigh"))) (aCons (eVar 7) (aCons (eA dTuple (aCons (eVar 8) aNil)) aNil)))))))))) : GS noObj) = T at eq ⊢
      have e3 : ((wb + 1 : Nat) : Int) - 1 = (wb : Int) := by omega
      simp only [dIx_pick, dMod, dDiv, dList, dTuple, dRev, dSl, Int.reduceLT, Int.reduceLE, Int.reduceEq, Int.reduceSub, Int.reduceAdd, and_self, true_and, and_true, and_false, false_and, Int.cast_ofNat_Int, decide_true, decide_false, Bool.true_and, Bool.false_and, Bool.and_true, Bool.and_false, dIx_t0, dIx_t1, dIx_l0, dIx_l1, toItems, itemsOf, runF, runL, startE, endF, endL, R.bind_ok, R.bind_exc, R.bind_stuck, gSeq, gIf, gSet, gOwn, gRet, gRetL, gRetO, gDrop, gTgt, gT, gsC, gsN, gN, gFor, gApp, gExt, gFrz, gNil, gExc, eVar, eC, e1, e2, eA, aNil, aCons, eTup, eLst, eCall, lCall, listR, eChain, tV, tAndD, tOrD, tNotD, eAnd, eOr, eNot, eIf, eL, lDisp, lList, lRep, oNone, oSome, eSl, iSeq, iRng1, iRng2, iZipD, iEnumD, iRevD, lListRange, lLc, eSorted, eSortSet, eLenSet, eBor, tBor, tYesD, noE, toB, dCmp, dSub, dNeg, dInt, dLen, dIs, dIsNot, List.map_cons, List.map_nil, List.length_cons, List.length_nil, Nat.reduceAdd, Nat.reduceSub, Nat.reduceLeDiff, List.replicate, List.cons_append, List.nil_append, List.append_nil, List.getElem?_cons_zero, List.getElem?_cons_succ, List.set_cons_zero, List.set_cons_succ, if_true, if_false, reduceIte, Bool.not_true, Bool.not_false, Bool.false_eq_true, reduceCtorEq, tcond, e3, eq]
end W

set_option Elab.async false
set_option linter.all false
set_option maxRecDepth 100000
set_option maxHeartbeats 2000000
namespace W
open PySem PL
def oddC (c : List Int) : D := .tuple (c.map fun x => if x < 0 then .int x else .bool (decide (x = 1)))
def toldT (x : D) : D := .tuple [.str sTold, x]
def weighT (w : Wg) (p : D) : D := .tuple [.str sWeigh, encW w, p]
def thingM (q : D) (c : List Int) (w : Wg) : List D :=
  [toldT (encC c), .none, toldT (oddC c), toldT (.list (c.map PyData.int)), .tuple [.str sTold], .tuple [.str sTold, encC c, encC c],
   weighT w (.tuple [.none, toldT (encC c), .none]), weighT w (.tuple [q, q, q]), .tuple [],
   .tuple [.str sWeigh, encW w], .str sTold, .int 5, .list [.str sTold, encC c], .tuple [.str (Str.ofString "tell"), encC c], .tuple [.none, encC c], .dict []]
theorem c_thing (c : List Int) (hl : c.length ≤ 100) (s0 s1 s2 s3 s5 s6 s7 : PL.Slot noObj) : c__law_thing_1 [s0, s1, s2, s3, .val (encC c), s5, s6, s7, .no] = .ok (c.map fun x => if x < 0 then .int x else .bool (decide (x = 1))) := by
  unfold c__law_thing_1 encC
  simp only [dIx_t0, dIx_t1, dIx_l0, dIx_l1, toItems, itemsOf, runF, runL, startE, endF, endL, R.bind_ok, R.bind_exc, R.bind_stuck, gSeq, gIf, gSet, gOwn, gRet, gRetL, gRetO, gDrop, gTgt, gT, gsC, gsN, gN, gFor, gApp, gExt, gFrz, gNil, gExc, eVar, eC, e1, e2, eA, aNil, aCons, eTup, eLst, eCall, lCall, listR, eChain, tV, tAndD, tOrD, tNotD, eAnd, eOr, eNot, eIf, eL, lDisp, lList, lRep, oNone, oSome, eSl, iSeq, iRng1, iRng2, iZipD, iEnumD, iRevD, lListRange, lLc, eSorted, eSortSet, eLenSet, eBor, tBor, tYesD, noE, toB, dCmp, dSub, dNeg, dInt, dLen, dIs, dIsNot, List.map_cons, List.map_nil, List.length_cons, List.length_nil, Nat.reduceAdd, Nat.reduceSub, Nat.reduceLeDiff, List.replicate, List.cons_append, List.nil_append, List.append_nil, List.getElem?_cons_zero, List.getElem?_cons_succ, List.set_cons_zero, List.set_cons_succ, if_true, if_false, reduceIte, Bool.not_true, Bool.not_false, Bool.false_eq_true, reduceCtorEq]
  rw [if_pos ⟨by rw [List.length_map]; omega, rfl⟩]
  refine noE_of ?_
  refine each_map' fun x _ => ?_
  unfold lcStep
  simp only [dIx_t0, dIx_t1, dIx_l0, dIx_l1, toItems, itemsOf, runF, runL, startE, endF, endL, R.bind_ok, R.bind_exc, R.bind_stuck, gSeq, gIf, gSet, gOwn, gRet, gRetL, gRetO, gDrop, gTgt, gT, gsC, gsN, gN, gFor, gApp, gExt, gFrz, gNil, gExc, eVar, eC, e1, e2, eA, aNil, aCons, eTup, eLst, eCall, lCall, listR, eChain, tV, tAndD, tOrD, tNotD, eAnd, eOr, eNot, eIf, eL, lDisp, lList, lRep, oNone, oSome, eSl, iSeq, iRng1, iRng2, iZipD, iEnumD, iRevD, lListRange, lLc, eSorted, eSortSet, eLenSet, eBor, tBor, tYesD, noE, toB, dCmp, dSub, dNeg, dInt, dLen, dIs, dIsNot, List.map_cons, List.map_nil, List.length_cons, List.length_nil, Nat.reduceAdd, Nat.reduceSub, Nat.reduceLeDiff, List.replicate, List.cons_append, List.nil_append, List.append_nil, List.getElem?_cons_zero, List.getElem?_cons_succ, List.set_cons_zero, List.set_cons_succ, if_true, if_false, reduceIte, Bool.not_true, Bool.not_false, Bool.false_eq_true, reduceCtorEq, wipeE, dEq_int]
  by_cases h : x < 0
  · simp only [dIx_t0, dIx_t1, dIx_l0, dIx_l1, toItems, itemsOf, runF, runL, startE, endF, endL, R.bind_ok, R.bind_exc, R.bind_stuck, gSeq, gIf, gSet, gOwn, gRet, gRetL, gRetO, gDrop, gTgt, gT, gsC, gsN, gN, gFor, gApp, gExt, gFrz, gNil, gExc, eVar, eC, e1, e2, eA, aNil, aCons, eTup, eLst, eCall, lCall, listR, eChain, tV, tAndD, tOrD, tNotD, eAnd, eOr, eNot, eIf, eL, lDisp, lList, lRep, oNone, oSome, eSl, iSeq, iRng1, iRng2, iZipD, iEnumD, iRevD, lListRange, lLc, eSorted, eSortSet, eLenSet, eBor, tBor, tYesD, noE, toB, dCmp, dSub, dNeg, dInt, dLen, dIs, dIsNot, List.map_cons, List.map_nil, List.length_cons, List.length_nil, Nat.reduceAdd, Nat.reduceSub, Nat.reduceLeDiff, List.replicate, List.cons_append, List.nil_append, List.append_nil, List.getElem?_cons_zero, List.getElem?_cons_succ, List.set_cons_zero, List.set_cons_succ, if_true, if_false, reduceIte, Bool.not_true, Bool.not_false, Bool.false_eq_true, reduceCtorEq, decide_eq_true h, if_pos h]
  · simp only [dIx_t0, dIx_t1, dIx_l0, dIx_l1, toItems, itemsOf, runF, runL, startE, endF, endL, R.bind_ok, R.bind_exc, R.bind_stuck, gSeq, gIf, gSet, gOwn, gRet, gRetL, gRetO, gDrop, gTgt, gT, gsC, gsN, gN, gFor, gApp, gExt, gFrz, gNil, gExc, eVar, eC, e1, e2, eA, aNil, aCons, eTup, eLst, eCall, lCall, listR, eChain, tV, tAndD, tOrD, tNotD, eAnd, eOr, eNot, eIf, eL, lDisp, lList, lRep, oNone, oSome, eSl, iSeq, iRng1, iRng2, iZipD, iEnumD, iRevD, lListRange, lLc, eSorted, eSortSet, eLenSet, eBor, tBor, tYesD, noE, toB, dCmp, dSub, dNeg, dInt, dLen, dIs, dIsNot, List.map_cons, List.map_nil, List.length_cons, List.length_nil, Nat.reduceAdd, Nat.reduceSub, Nat.reduceLeDiff, List.replicate, List.cons_append, List.nil_append, List.append_nil, List.getElem?_cons_zero, List.getElem?_cons_succ, List.set_cons_zero, List.set_cons_succ, if_true, if_false, reduceIte, Bool.not_true, Bool.not_false, Bool.false_eq_true, reduceCtorEq, decide_eq_false h, if_neg h]
theorem lst_enc (c : List Int) : dList [encC c] = .ok (.list (c.map PyData.int)) := rfl
theorem thing_eq {m : Nat} (hm : Many m) {cs : List (List Int)} (hc : ∀ c ∈ cs, CaseOk m c) (hcs : cs ≠ []) {q : Pl} (hq : isNone q = false) (ht : ∀ c, q = .told c → CaseOk m c) (v : Int) :
    ∃ c w, CaseOk m c ∧ w ∈ Ws m ∧ F__law_thing [encP q, .list ((Ws m).map encW), .list (cs.map encC), .int v] = .ok (pick (thingM (encP q) c w) v 16) := by
  have p1 : (0 : Int) < (cs.length : Nat) := by have := List.length_pos_iff.mpr hcs; omega
  have p2 : ((cs.map encC).length : Int) = (cs.length : Nat) := by rw [List.length_map]
  obtain ⟨c0, hc0, ec⟩ := List.mem_map.mp (pick_mem (c := v / 16) p2 p1)
  have p3 : (0 : Int) < ((Ws m).length : Nat) := by have := (Ws_len hm).1; omega
  have p4 : (((Ws m).map encW).length : Int) = ((Ws m).length : Nat) := by rw [List.length_map]
  obtain ⟨w, hw, ew⟩ := List.mem_map.mp (pick_mem (c := v / 16) p4 p3)
  have lenC : ∀ {c : List Int}, CaseOk m c → c.length ≤ 100 := fun h => by rw [h.1]; rcases hm with rfl | rfl | rfl | rfl <;> decide
  cases q with
  | none => cases hq
  | told c1 =>
    by_cases h2 : v / 16 % 2 = 1
    · refine ⟨c1, w, ht c1 rfl, hw, ?_⟩
      unfold F__law_thing g__law_thing
      simp only [dIx_t0, dIx_t1, dIx_l0, dIx_l1, toItems, itemsOf, runF, runL, startE, endF, endL, R.bind_ok, R.bind_exc, R.bind_stuck, gSeq, gIf, gSet, gOwn, gRet, gRetL, gRetO, gDrop, gTgt, gT, gsC, gsN, gN, gFor, gApp, gExt, gFrz, gNil, gExc, eVar, eC, e1, e2, eA, aNil, aCons, eTup, eLst, eCall, lCall, listR, eChain, tV, tAndD, tOrD, tNotD, eAnd, eOr, eNot, eIf, eL, lDisp, lList, lRep, oNone, oSome, eSl, iSeq, iRng1, iRng2, iZipD, iEnumD, iRevD, lListRange, lLc, eSorted, eSortSet, eLenSet, eBor, tBor, tYesD, noE, toB, dCmp, dSub, dNeg, dInt, dLen, dIs, dIsNot, List.map_cons, List.map_nil, List.length_cons, List.length_nil, Nat.reduceAdd, Nat.reduceSub, Nat.reduceLeDiff, List.replicate, List.cons_append, List.nil_append, List.append_nil, List.getElem?_cons_zero, List.getElem?_cons_succ, List.set_cons_zero, List.set_cons_succ, if_true, if_false, reduceIte, Bool.not_true, Bool.not_false, Bool.false_eq_true, reduceCtorEq, dIx_pick, dMod, dDiv, dTuple, Int.reduceLT, Int.reduceLE, Int.reduceEq, Int.reduceSub, Int.reduceAdd, and_self, Int.cast_ofNat_Int, lst_enc, dAdd, List.cons_append, List.nil_append, List.length_map, p1, p3, ← ec, ← ew, encP, told_told, dEq_int, h2, decide_true, c_thing c1 (lenC (ht c1 rfl))]
      rfl
    · refine ⟨c0, w, hc c0 hc0, hw, ?_⟩
      unfold F__law_thing g__law_thing
      simp only [dIx_t0, dIx_t1, dIx_l0, dIx_l1, toItems, itemsOf, runF, runL, startE, endF, endL, R.bind_ok, R.bind_exc, R.bind_stuck, gSeq, gIf, gSet, gOwn, gRet, gRetL, gRetO, gDrop, gTgt, gT, gsC, gsN, gN, gFor, gApp, gExt, gFrz, gNil, gExc, eVar, eC, e1, e2, eA, aNil, aCons, eTup, eLst, eCall, lCall, listR, eChain, tV, tAndD, tOrD, tNotD, eAnd, eOr, eNot, eIf, eL, lDisp, lList, lRep, oNone, oSome, eSl, iSeq, iRng1, iRng2, iZipD, iEnumD, iRevD, lListRange, lLc, eSorted, eSortSet, eLenSet, eBor, tBor, tYesD, noE, toB, dCmp, dSub, dNeg, dInt, dLen, dIs, dIsNot, List.map_cons, List.map_nil, List.length_cons, List.length_nil, Nat.reduceAdd, Nat.reduceSub, Nat.reduceLeDiff, List.replicate, List.cons_append, List.nil_append, List.append_nil, List.getElem?_cons_zero, List.getElem?_cons_succ, List.set_cons_zero, List.set_cons_succ, if_true, if_false, reduceIte, Bool.not_true, Bool.not_false, Bool.false_eq_true, reduceCtorEq, dIx_pick, dMod, dDiv, dTuple, Int.reduceLT, Int.reduceLE, Int.reduceEq, Int.reduceSub, Int.reduceAdd, and_self, Int.cast_ofNat_Int, lst_enc, dAdd, List.cons_append, List.nil_append, List.length_map, p1, p3, ← ec, ← ew, encP, told_told, dEq_int, decide_eq_false h2, c_thing c0 (lenC (hc c0 hc0))]
      rfl
  | weigh w1 l e r =>
    refine ⟨c0, w, hc c0 hc0, hw, ?_⟩
    unfold F__law_thing g__law_thing
    simp only [dIx_t0, dIx_t1, dIx_l0, dIx_l1, toItems, itemsOf, runF, runL, startE, endF, endL, R.bind_ok, R.bind_exc, R.bind_stuck, gSeq, gIf, gSet, gOwn, gRet, gRetL, gRetO, gDrop, gTgt, gT, gsC, gsN, gN, gFor, gApp, gExt, gFrz, gNil, gExc, eVar, eC, e1, e2, eA, aNil, aCons, eTup, eLst, eCall, lCall, listR, eChain, tV, tAndD, tOrD, tNotD, eAnd, eOr, eNot, eIf, eL, lDisp, lList, lRep, oNone, oSome, eSl, iSeq, iRng1, iRng2, iZipD, iEnumD, iRevD, lListRange, lLc, eSorted, eSortSet, eLenSet, eBor, tBor, tYesD, noE, toB, dCmp, dSub, dNeg, dInt, dLen, dIs, dIsNot, List.map_cons, List.map_nil, List.length_cons, List.length_nil, Nat.reduceAdd, Nat.reduceSub, Nat.reduceLeDiff, List.replicate, List.cons_append, List.nil_append, List.append_nil, List.getElem?_cons_zero, List.getElem?_cons_succ, List.set_cons_zero, List.set_cons_succ, if_true, if_false, reduceIte, Bool.not_true, Bool.not_false, Bool.false_eq_true, reduceCtorEq, dIx_pick, dMod, dDiv, dTuple, Int.reduceLT, Int.reduceLE, Int.reduceEq, Int.reduceSub, Int.reduceAdd, and_self, Int.cast_ofNat_Int, lst_enc, dAdd, List.cons_append, List.nil_append, List.length_map, p1, p3, ← ec, ← ew, encP, weigh_told, dEq_int, c_thing c0 (lenC (hc c0 hc0))]
    rfl
end W

set_option Elab.async false
set_option linter.all false
set_option maxRecDepth 100000
set_option maxHeartbeats 2000000
namespace W
open PySem PL
def toldP : Pl → List (List Int)
  | .none => []
  | .told c => [c]
  | .weigh _ l e r => toldP l ++ toldP e ++ toldP r
theorem told_in_ok : ∀ (q : Pl) (n : Nat), hgt q + 1 ≤ n → (toldP q).length ≤ 1000 → F__law_told_in n [encP q] = .ok (.list ((toldP q).map encC))
  | .none, n, hn, _ => by
    obtain ⟨n, rfl⟩ : ∃ n', n = n' + 1 := ⟨n - 1, by omega⟩
    show runF 1 (g__law_told_in (F__law_told_in n)) _ = _
    unfold g__law_told_in
    simp only [dIx_t0, dIx_t1, dIx_l0, dIx_l1, toItems, itemsOf, runF, runL, startE, endF, endL, R.bind_ok, R.bind_exc, R.bind_stuck, gSeq, gIf, gSet, gOwn, gRet, gRetL, gRetO, gDrop, gTgt, gT, gsC, gsN, gN, gFor, gApp, gExt, gFrz, gNil, gExc, eVar, eC, e1, e2, eA, aNil, aCons, eTup, eLst, eCall, lCall, listR, eChain, tV, tAndD, tOrD, tNotD, eAnd, eOr, eNot, eIf, eL, lDisp, lList, lRep, oNone, oSome, eSl, iSeq, iRng1, iRng2, iZipD, iEnumD, iRevD, lListRange, lLc, eSorted, eSortSet, eLenSet, eBor, tBor, tYesD, noE, toB, dCmp, dSub, dNeg, dInt, dLen, dIs, dIsNot, List.map_cons, List.map_nil, List.length_cons, List.length_nil, Nat.reduceAdd, Nat.reduceSub, Nat.reduceLeDiff, List.replicate, List.cons_append, List.nil_append, List.append_nil, List.getElem?_cons_zero, List.getElem?_cons_succ, List.set_cons_zero, List.set_cons_succ, if_true, if_false, reduceIte, Bool.not_true, Bool.not_false, Bool.false_eq_true, reduceCtorEq, encP, toldP]
  | .told c, n, hn, _ => by
    obtain ⟨n, rfl⟩ : ∃ n', n = n' + 1 := ⟨n - 1, by omega⟩
    show runF 1 (g__law_told_in (F__law_told_in n)) _ = _
    unfold g__law_told_in
    simp only [dIx_t0, dIx_t1, dIx_l0, dIx_l1, toItems, itemsOf, runF, runL, startE, endF, endL, R.bind_ok, R.bind_exc, R.bind_stuck, gSeq, gIf, gSet, gOwn, gRet, gRetL, gRetO, gDrop, gTgt, gT, gsC, gsN, gN, gFor, gApp, gExt, gFrz, gNil, gExc, eVar, eC, e1, e2, eA, aNil, aCons, eTup, eLst, eCall, lCall, listR, eChain, tV, tAndD, tOrD, tNotD, eAnd, eOr, eNot, eIf, eL, lDisp, lList, lRep, oNone, oSome, eSl, iSeq, iRng1, iRng2, iZipD, iEnumD, iRevD, lListRange, lLc, eSorted, eSortSet, eLenSet, eBor, tBor, tYesD, noE, toB, dCmp, dSub, dNeg, dInt, dLen, dIs, dIsNot, List.map_cons, List.map_nil, List.length_cons, List.length_nil, Nat.reduceAdd, Nat.reduceSub, Nat.reduceLeDiff, List.replicate, List.cons_append, List.nil_append, List.append_nil, List.getElem?_cons_zero, List.getElem?_cons_succ, List.set_cons_zero, List.set_cons_succ, if_true, if_false, reduceIte, Bool.not_true, Bool.not_false, Bool.false_eq_true, reduceCtorEq, encP, toldP, told_told]
  | .weigh w l e r, n, hn, hl => by
    obtain ⟨n, rfl⟩ : ∃ n', n = n' + 1 := ⟨n - 1, by omega⟩
    simp only [hgt] at hn
    simp only [toldP, List.length_append] at hl
    have h1 := told_in_ok l n (by omega) (by omega)
    have h2 := told_in_ok e n (by omega) (by omega)
    have h3 := told_in_ok r n (by omega) (by omega)
    show runF 1 (g__law_told_in (F__law_told_in n)) _ = _
    unfold g__law_told_in
    have g1 : (toldP l).length + (toldP e).length ≤ 100000 := by omega
    have g2 : (toldP l).length + (toldP e).length + (toldP r).length ≤ 100000 := by omega
    simp only [dIx_t0, dIx_t1, dIx_l0, dIx_l1, toItems, itemsOf, runF, runL, startE, endF, endL, R.bind_ok, R.bind_exc, R.bind_stuck, gSeq, gIf, gSet, gOwn, gRet, gRetL, gRetO, gDrop, gTgt, gT, gsC, gsN, gN, gFor, gApp, gExt, gFrz, gNil, gExc, eVar, eC, e1, e2, eA, aNil, aCons, eTup, eLst, eCall, lCall, listR, eChain, tV, tAndD, tOrD, tNotD, eAnd, eOr, eNot, eIf, eL, lDisp, lList, lRep, oNone, oSome, eSl, iSeq, iRng1, iRng2, iZipD, iEnumD, iRevD, lListRange, lLc, eSorted, eSortSet, eLenSet, eBor, tBor, tYesD, noE, toB, dCmp, dSub, dNeg, dInt, dLen, dIs, dIsNot, List.map_cons, List.map_nil, List.length_cons, List.length_nil, Nat.reduceAdd, Nat.reduceSub, Nat.reduceLeDiff, List.replicate, List.cons_append, List.nil_append, List.append_nil, List.getElem?_cons_zero, List.getElem?_cons_succ, List.set_cons_zero, List.set_cons_succ, if_true, if_false, reduceIte, Bool.not_true, Bool.not_false, Bool.false_eq_true, reduceCtorEq, encP, toldP, weigh_told, ix2, h1, h2, h3, List.map_append, dAdd, List.length_map, List.length_append, g1, g2]
end W

set_option Elab.async false
set_option linter.all false
set_option maxRecDepth 100000
set_option maxHeartbeats 2000000
namespace W
open PySem PL
theorem toldP_mem {m : Nat} : ∀ (q : Pl) (cs : List (List Int)), ValidP m cs q → ∀ c ∈ toldP q, c ∈ cs
  | .none, _, _, c, h => by cases h
  | .told d, cs, hv, c, h => by cases (show cs = [d] from hv); exact h
  | .weigh w l e r, cs, hv, c, h => by
    obtain ⟨_, _, _, v0, v1, v2⟩ := hv
    simp only [toldP, List.mem_append] at h
    rcases h with (h | h) | h
    · exact by_sub c (toldP_mem l _ v0 c h)
    · exact by_sub c (toldP_mem e _ v1 c h)
    · exact by_sub c (toldP_mem r _ v2 c h)
theorem by_len (w : Wg) : ∀ (cs : List (List Int)), (byW w (-1) cs).length + (byW w 0 cs).length + (byW w 1 cs).length = cs.length
  | [] => rfl
  | c :: cs => by
    have h := by_len w cs
    unfold byW at h ⊢
    rcases cm_val w c with e | e | e <;> simp [e] <;> omega
theorem toldP_len {m : Nat} : ∀ (q : Pl) (cs : List (List Int)), ValidP m cs q → (toldP q).length = cs.length
  | .none, cs, hv => by cases (show cs = [] from hv); rfl
  | .told d, cs, hv => by cases (show cs = [d] from hv); rfl
  | .weigh w l e r, cs, hv => by
    obtain ⟨_, _, _, v0, v1, v2⟩ := hv
    simp only [toldP, List.length_append]
    rw [toldP_len l _ v0, toldP_len e _ v1, toldP_len r _ v2]
    exact by_len w cs
def hereM (w1 : Wg) (l e r : D) (w : Wg) : List D :=
  [weighT (swapW w1) (.tuple [l, e, r]), weighT w (.tuple [l, e, r]), .tuple [.str sWeigh, .list [.tuple (w1.1.map PyData.int), .tuple (w1.2.map PyData.int)], .tuple [l, e, r]],
   weighT (w1.1, w1.1) (.tuple [l, e, r]), .tuple [.str sWeigh, .none, .tuple [l, e, r]],
   weighT w1 (.tuple [r, e, l]), weighT w1 (.list [l, e, r]), weighT w1 (.tuple [l, e, r, .none]), weighT w1 (.tuple [l, e]), weighT w1 .none, weighT w1 (.tuple []),
   .tuple [.str sWeigh, encW w1, .tuple [l, e, r], .none], .tuple [.str sWeigh, encW w1], .list [.str sWeigh, encW w1, .tuple [l, e, r]], .tuple [.str (Str.ofString "Weigh"), encW w1, .tuple [l, e, r]],
   .tuple [.int 5, encW w1, .tuple [l, e, r]], .tuple [.tuple [l, e, r], encW w1, .str sWeigh], weighT (swapW w1) (.tuple [r, e, l])]
inductive HereR (m : Nat) (cs : List (List Int)) (q : Pl) (t : D) : Prop
  | tell (c : List Int) (h : c ∈ cs) (e : t = toldT (encC c))
  | thing (c : List Int) (w : Wg) (hc : CaseOk m c) (hw : w ∈ Ws m) (h : t ∈ thingM (encP q) c w)
  | other (w1 : Wg) (l e r : Pl) (hq : q = .weigh w1 l e r) (w : Wg) (hw : w ∈ Ws m) (h : t ∈ hereM w1 (encP l) (encP e) (encP r) w)
  | part (w1 : Wg) (l e r : Pl) (hq : q = .weigh w1 l e r) (c : List Int) (w : Wg) (hc : CaseOk m c) (hw : w ∈ Ws m) (x : D) (hx : x ∈ thingM (encP q) c w) (h : t = weighT w1 (.tuple [x, encP e, encP r]) ∨ t = weighT w1 (.tuple [encP l, x, encP r]) ∨ t = weighT w1 (.tuple [encP l, encP e, x]))
theorem thing_mem {q : D} {c : List Int} {w : Wg} {v : Int} : pick (thingM q c w) v 16 ∈ thingM q c w := pick_mem rfl (by decide)
theorem c_here {cs ks : List (List Int)} (hl : cs.length ≤ 100) (s0 s1 s3 s5 s6 s7 s8 s9 s10 : PL.Slot noObj) : c__law_here_changed_1 [s0, s1, .val (.list (cs.map encC)), s3, .val (.list (ks.map encC)), s5, s6, s7, s8, s9, s10, .no] = .ok ((cs.filter fun c => decide (c ∈ ks)).map encC) := by
  unfold c__law_here_changed_1
  simp only [dIx_t0, dIx_t1, dIx_l0, dIx_l1, toItems, itemsOf, runF, runL, startE, endF, endL, R.bind_ok, R.bind_exc, R.bind_stuck, gSeq, gIf, gSet, gOwn, gRet, gRetL, gRetO, gDrop, gTgt, gT, gsC, gsN, gN, gFor, gApp, gExt, gFrz, gNil, gExc, eVar, eC, e1, e2, eA, aNil, aCons, eTup, eLst, eCall, lCall, listR, eChain, tV, tAndD, tOrD, tNotD, eAnd, eOr, eNot, eIf, eL, lDisp, lList, lRep, oNone, oSome, eSl, iSeq, iRng1, iRng2, iZipD, iEnumD, iRevD, lListRange, lLc, eSorted, eSortSet, eLenSet, eBor, tBor, tYesD, noE, toB, dCmp, dSub, dNeg, dInt, dLen, dIs, dIsNot, List.map_cons, List.map_nil, List.length_cons, List.length_nil, Nat.reduceAdd, Nat.reduceSub, Nat.reduceLeDiff, List.replicate, List.cons_append, List.nil_append, List.append_nil, List.getElem?_cons_zero, List.getElem?_cons_succ, List.set_cons_zero, List.set_cons_succ, if_true, if_false, reduceIte, Bool.not_true, Bool.not_false, Bool.false_eq_true, reduceCtorEq]
  rw [if_pos ⟨by rw [List.length_map]; omega, rfl⟩]
  refine noE_of (each_enc fun c _ => ?_)
  have q3 : (SeqAt.shaped (encC c) && SeqAt.shaped (.list (ks.map encC))) = true := by
    rw [shaped_sh (encC_sh c), shaped_sh (sh_list (n := 1) fun x hx => ?_)]
    · rfl
    · obtain ⟨d, _, rfl⟩ := List.mem_map.mp hx
      exact encC_sh d
  have q4 : dIn (encC c) (.list (ks.map encC)) = .ok (.bool (decide (c ∈ ks))) := by
    unfold dIn
    simp only [q3, if_true, any_enc]
  unfold lcStep
  simp only [dIx_t0, dIx_t1, dIx_l0, dIx_l1, toItems, itemsOf, runF, runL, startE, endF, endL, R.bind_ok, R.bind_exc, R.bind_stuck, gSeq, gIf, gSet, gOwn, gRet, gRetL, gRetO, gDrop, gTgt, gT, gsC, gsN, gN, gFor, gApp, gExt, gFrz, gNil, gExc, eVar, eC, e1, e2, eA, aNil, aCons, eTup, eLst, eCall, lCall, listR, eChain, tV, tAndD, tOrD, tNotD, eAnd, eOr, eNot, eIf, eL, lDisp, lList, lRep, oNone, oSome, eSl, iSeq, iRng1, iRng2, iZipD, iEnumD, iRevD, lListRange, lLc, eSorted, eSortSet, eLenSet, eBor, tBor, tYesD, noE, toB, dCmp, dSub, dNeg, dInt, dLen, dIs, dIsNot, List.map_cons, List.map_nil, List.length_cons, List.length_nil, Nat.reduceAdd, Nat.reduceSub, Nat.reduceLeDiff, List.replicate, List.cons_append, List.nil_append, List.append_nil, List.getElem?_cons_zero, List.getElem?_cons_succ, List.set_cons_zero, List.set_cons_succ, if_true, if_false, reduceIte, Bool.not_true, Bool.not_false, Bool.false_eq_true, reduceCtorEq, wipeE, q4]
  by_cases h : c ∈ ks
  · simp only [dIx_t0, dIx_t1, dIx_l0, dIx_l1, toItems, itemsOf, runF, runL, startE, endF, endL, R.bind_ok, R.bind_exc, R.bind_stuck, gSeq, gIf, gSet, gOwn, gRet, gRetL, gRetO, gDrop, gTgt, gT, gsC, gsN, gN, gFor, gApp, gExt, gFrz, gNil, gExc, eVar, eC, e1, e2, eA, aNil, aCons, eTup, eLst, eCall, lCall, listR, eChain, tV, tAndD, tOrD, tNotD, eAnd, eOr, eNot, eIf, eL, lDisp, lList, lRep, oNone, oSome, eSl, iSeq, iRng1, iRng2, iZipD, iEnumD, iRevD, lListRange, lLc, eSorted, eSortSet, eLenSet, eBor, tBor, tYesD, noE, toB, dCmp, dSub, dNeg, dInt, dLen, dIs, dIsNot, List.map_cons, List.map_nil, List.length_cons, List.length_nil, Nat.reduceAdd, Nat.reduceSub, Nat.reduceLeDiff, List.replicate, List.cons_append, List.nil_append, List.append_nil, List.getElem?_cons_zero, List.getElem?_cons_succ, List.set_cons_zero, List.set_cons_succ, if_true, if_false, reduceIte, Bool.not_true, Bool.not_false, Bool.false_eq_true, reduceCtorEq, decide_eq_true h]
  · simp only [dIx_t0, dIx_t1, dIx_l0, dIx_l1, toItems, itemsOf, runF, runL, startE, endF, endL, R.bind_ok, R.bind_exc, R.bind_stuck, gSeq, gIf, gSet, gOwn, gRet, gRetL, gRetO, gDrop, gTgt, gT, gsC, gsN, gN, gFor, gApp, gExt, gFrz, gNil, gExc, eVar, eC, e1, e2, eA, aNil, aCons, eTup, eLst, eCall, lCall, listR, eChain, tV, tAndD, tOrD, tNotD, eAnd, eOr, eNot, eIf, eL, lDisp, lList, lRep, oNone, oSome, eSl, iSeq, iRng1, iRng2, iZipD, iEnumD, iRevD, lListRange, lLc, eSorted, eSortSet, eLenSet, eBor, tBor, tYesD, noE, toB, dCmp, dSub, dNeg, dInt, dLen, dIs, dIsNot, List.map_cons, List.map_nil, List.length_cons, List.length_nil, Nat.reduceAdd, Nat.reduceSub, Nat.reduceLeDiff, List.replicate, List.cons_append, List.nil_append, List.append_nil, List.getElem?_cons_zero, List.getElem?_cons_succ, List.set_cons_zero, List.set_cons_succ, if_true, if_false, reduceIte, Bool.not_true, Bool.not_false, Bool.false_eq_true, reduceCtorEq, decide_eq_false h]
theorem cut3_10 (a b c : D) : cutD [a, b, c] (some 1) none = [b, c] := rfl
theorem cut3_20 (a b c : D) : cutD [a, b, c] (some 2) none = [c] := rfl
theorem cut3_30 (a b c : D) : cutD [a, b, c] (some 3) none = [] := rfl
theorem cut3_00 (a b c : D) : cutD [a, b, c] none (some 0) = [] := rfl
theorem cut3_01 (a b c : D) : cutD [a, b, c] none (some 1) = [a] := rfl
theorem cut3_02 (a b c : D) : cutD [a, b, c] none (some 2) = [a, b] := rfl
theorem here_eq {m : Nat} (hm : Many m) {cs bs : List (List Int)} (hc : ∀ c ∈ cs, CaseOk m c) (hcs : cs ≠ []) (hl : cs.length ≤ 100) (hbl : bs.length ≤ 100) (hb : ∀ c ∈ bs, c ∈ cs) (hbs : bs ≠ []) {q : Pl} (hv : ValidP m bs q) (hh : hgt q ≤ 39) (v : Int) :
    ∃ t, F__law_here_changed [encP q, .list ((Ws m).map encW), .list (cs.map encC), .int v] = .ok t ∧ HereR m cs q t := by
  have hq : isNone q = false := valid_none hv hbs
  have htold : ∀ c, q = .told c → CaseOk m c := fun c e => by
    subst e
    cases (show bs = [c] from hv)
    exact hc c (hb c (by simp))
  by_cases h7 : v % 7 = 6
  · have hlen := toldP_len q bs hv
    have hne : (cs.filter fun c => decide (c ∈ toldP q)) ≠ [] := by
      have hp := List.length_pos_iff.mpr hbs
      obtain ⟨c, hc'⟩ := List.exists_mem_of_length_pos (show 0 < (toldP q).length by omega)
      exact List.ne_nil_of_mem (List.mem_filter.mpr ⟨hb c (toldP_mem q bs hv c hc'), decide_eq_true hc'⟩)
    obtain ⟨c, r, ecr⟩ := List.exists_cons_of_ne_nil hne
    refine ⟨toldT (encC c), ?_, .tell c (List.mem_filter.mp (show c ∈ cs.filter fun c => decide (c ∈ toldP q) by rw [ecr]; simp)).1 rfl⟩
    unfold F__law_here_changed g__law_here_changed
    simp only [dIx_t0, dIx_t1, dIx_l0, dIx_l1, toItems, itemsOf, runF, runL, startE, endF, endL, R.bind_ok, R.bind_exc, R.bind_stuck, gSeq, gIf, gSet, gOwn, gRet, gRetL, gRetO, gDrop, gTgt, gT, gsC, gsN, gN, gFor, gApp, gExt, gFrz, gNil, gExc, eVar, eC, e1, e2, eA, aNil, aCons, eTup, eLst, eCall, lCall, listR, eChain, tV, tAndD, tOrD, tNotD, eAnd, eOr, eNot, eIf, eL, lDisp, lList, lRep, oNone, oSome, eSl, iSeq, iRng1, iRng2, iZipD, iEnumD, iRevD, lListRange, lLc, eSorted, eSortSet, eLenSet, eBor, tBor, tYesD, noE, toB, dCmp, dSub, dNeg, dInt, dLen, dIs, dIsNot, List.map_cons, List.map_nil, List.length_cons, List.length_nil, Nat.reduceAdd, Nat.reduceSub, Nat.reduceLeDiff, List.replicate, List.cons_append, List.nil_append, List.append_nil, List.getElem?_cons_zero, List.getElem?_cons_succ, List.set_cons_zero, List.set_cons_succ, if_true, if_false, reduceIte, Bool.not_true, Bool.not_false, Bool.false_eq_true, reduceCtorEq, dMod, Int.reduceEq, dEq_int, h7, decide_true, told_in_ok q 40 (by omega) (by omega), c_here hl, ecr, dIx_l0]
    rfl
  · obtain ⟨c, w, hcc, hw, eth⟩ := thing_eq hm hc hcs hq htold (v / 6)
    obtain ⟨c', w', hcc', hw', eth'⟩ := thing_eq hm hc hcs hq htold (v / 18)
    have n0 : decide (v % 7 = 6) = false := decide_eq_false h7
    cases q with
    | none => cases hq
    | told d =>
      refine ⟨pick (thingM (encP (.told d)) c w) (v / 6) 16, ?_, .thing c w hcc hw thing_mem⟩
      unfold F__law_here_changed g__law_here_changed
      rw [encP] at eth ⊢
      simp only [dIx_pick, dMod, dDiv, dList, dTuple, dRev, dSl, Int.reduceLT, Int.reduceLE, Int.reduceEq, Int.reduceSub, Int.reduceAdd, and_self, true_and, and_true, and_false, false_and, Int.cast_ofNat_Int, decide_true, decide_false, Bool.true_and, Bool.false_and, Bool.and_true, Bool.and_false, dIx_t0, dIx_t1, dIx_l0, dIx_l1, toItems, itemsOf, runF, runL, startE, endF, endL, R.bind_ok, R.bind_exc, R.bind_stuck, gSeq, gIf, gSet, gOwn, gRet, gRetL, gRetO, gDrop, gTgt, gT, gsC, gsN, gN, gFor, gApp, gExt, gFrz, gNil, gExc, eVar, eC, e1, e2, eA, aNil, aCons, eTup, eLst, eCall, lCall, listR, eChain, tV, tAndD, tOrD, tNotD, eAnd, eOr, eNot, eIf, eL, lDisp, lList, lRep, oNone, oSome, eSl, iSeq, iRng1, iRng2, iZipD, iEnumD, iRevD, lListRange, lLc, eSorted, eSortSet, eLenSet, eBor, tBor, tYesD, noE, toB, dCmp, dSub, dNeg, dInt, dLen, dIs, dIsNot, List.map_cons, List.map_nil, List.length_cons, List.length_nil, Nat.reduceAdd, Nat.reduceSub, Nat.reduceLeDiff, List.replicate, List.cons_append, List.nil_append, List.append_nil, List.getElem?_cons_zero, List.getElem?_cons_succ, List.set_cons_zero, List.set_cons_succ, if_true, if_false, reduceIte, Bool.not_true, Bool.not_false, Bool.false_eq_true, reduceCtorEq, dEq_int, n0, told_told, eth]
    | weigh w1 l e r =>
      by_cases h0 : v % 6 = 0
      · refine ⟨pick (thingM (encP (.weigh w1 l e r)) c w) (v / 6) 16, ?_, .thing c w hcc hw thing_mem⟩
        unfold F__law_here_changed g__law_here_changed
        rw [encP] at eth ⊢
        simp only [dIx_pick, dMod, dDiv, dList, dTuple, dRev, dSl, Int.reduceLT, Int.reduceLE, Int.reduceEq, Int.reduceSub, Int.reduceAdd, and_self, true_and, and_true, and_false, false_and, Int.cast_ofNat_Int, decide_true, decide_false, Bool.true_and, Bool.false_and, Bool.and_true, Bool.and_false, dIx_t0, dIx_t1, dIx_l0, dIx_l1, toItems, itemsOf, runF, runL, startE, endF, endL, R.bind_ok, R.bind_exc, R.bind_stuck, gSeq, gIf, gSet, gOwn, gRet, gRetL, gRetO, gDrop, gTgt, gT, gsC, gsN, gN, gFor, gApp, gExt, gFrz, gNil, gExc, eVar, eC, e1, e2, eA, aNil, aCons, eTup, eLst, eCall, lCall, listR, eChain, tV, tAndD, tOrD, tNotD, eAnd, eOr, eNot, eIf, eL, lDisp, lList, lRep, oNone, oSome, eSl, iSeq, iRng1, iRng2, iZipD, iEnumD, iRevD, lListRange, lLc, eSorted, eSortSet, eLenSet, eBor, tBor, tYesD, noE, toB, dCmp, dSub, dNeg, dInt, dLen, dIs, dIsNot, List.map_cons, List.map_nil, List.length_cons, List.length_nil, Nat.reduceAdd, Nat.reduceSub, Nat.reduceLeDiff, List.replicate, List.cons_append, List.nil_append, List.append_nil, List.getElem?_cons_zero, List.getElem?_cons_succ, List.set_cons_zero, List.set_cons_succ, if_true, if_false, reduceIte, Bool.not_true, Bool.not_false, Bool.false_eq_true, reduceCtorEq, dEq_int, n0, weigh_told, decide_eq_true h0, eth]
      · have d0 : decide (v % 6 = 0) = false := decide_eq_false h0
        have p3 : (0 : Int) < ((Ws m).length : Nat) := by have := (Ws_len hm).1; omega
        have p4 : (((Ws m).map encW).length : Int) = ((Ws m).length : Nat) := by rw [List.length_map]
        obtain ⟨w2, hw2, ew⟩ := List.mem_map.mp (pick_mem (c := v / 36) p4 p3)
        have fin : ∀ {l0 : List D}, (∀ x ∈ l0, x ∈ hereM w1 (encP l) (encP e) (encP r) w2) → (l0.length : Int) = 6 → HereR m cs (.weigh w1 l e r) (pick l0 (v / 6) 6) := fun {l0} hs h6 => .other w1 l e r rfl w2 hw2 (hs _ (pick_mem h6 (by decide)))
        have hd6 : v % 6 = 1 ∨ v % 6 = 2 ∨ v % 6 = 3 ∨ v % 6 = 4 ∨ v % 6 = 5 := by omega
        have mem : ∀ {l0 : List D} {f : D → D}, (l0.length : Int) = 6 → (∀ x ∈ l0, f x ∈ hereM w1 (encP l) (encP e) (encP r) w2) → f (pick l0 (v / 6) 6) ∈ hereM w1 (encP l) (encP e) (encP r) w2 := fun h6 hs => hs _ (pick_mem h6 (by decide))
        rcases hd6 with h1 | h1 | h1 | h1 | h1
        · refine ⟨.tuple [.str sWeigh, pick [encW (swapW w1), encW w2, .list [.tuple (w1.1.map PyData.int), .tuple (w1.2.map PyData.int)], encW (w1.1, w1.1), .none, encW (swapW w1)] (v / 6) 6, .tuple [encP l, encP e, encP r]], ?_, .other w1 l e r rfl w2 hw2 (mem (f := fun x => .tuple [.str sWeigh, x, .tuple [encP l, encP e, encP r]]) rfl fun x hx => ?_)⟩
          · unfold F__law_here_changed g__law_here_changed
            simp only [dIx_pick, dMod, dDiv, dList, dTuple, dRev, dSl, Int.reduceLT, Int.reduceLE, Int.reduceEq, Int.reduceSub, Int.reduceAdd, and_self, true_and, and_true, and_false, false_and, Int.cast_ofNat_Int, decide_true, decide_false, Bool.true_and, Bool.false_and, Bool.and_true, Bool.and_false, dIx_t0, dIx_t1, dIx_l0, dIx_l1, toItems, itemsOf, runF, runL, startE, endF, endL, R.bind_ok, R.bind_exc, R.bind_stuck, gSeq, gIf, gSet, gOwn, gRet, gRetL, gRetO, gDrop, gTgt, gT, gsC, gsN, gN, gFor, gApp, gExt, gFrz, gNil, gExc, eVar, eC, e1, e2, eA, aNil, aCons, eTup, eLst, eCall, lCall, listR, eChain, tV, tAndD, tOrD, tNotD, eAnd, eOr, eNot, eIf, eL, lDisp, lList, lRep, oNone, oSome, eSl, iSeq, iRng1, iRng2, iZipD, iEnumD, iRevD, lListRange, lLc, eSorted, eSortSet, eLenSet, eBor, tBor, tYesD, noE, toB, dCmp, dSub, dNeg, dInt, dLen, dIs, dIsNot, List.map_cons, List.map_nil, List.length_cons, List.length_nil, Nat.reduceAdd, Nat.reduceSub, Nat.reduceLeDiff, List.replicate, List.cons_append, List.nil_append, List.append_nil, List.getElem?_cons_zero, List.getElem?_cons_succ, List.set_cons_zero, List.set_cons_succ, if_true, if_false, reduceIte, Bool.not_true, Bool.not_false, Bool.false_eq_true, reduceCtorEq, dEq_int, n0, weigh_told, d0, encP, h1, List.length_map, p3, ← ew, encW]
            rfl
          · simp only [List.mem_cons, List.not_mem_nil, or_false] at hx
            rcases hx with rfl | rfl | rfl | rfl | rfl | rfl <;> (repeat (first | exact List.Mem.head _ | apply List.Mem.tail))
        · refine ⟨weighT w1 (pick [.tuple [encP r, encP e, encP l], .list [encP l, encP e, encP r], .tuple [encP l, encP e, encP r, .none], .tuple [encP l, encP e], .none, .tuple []] (v / 6) 6), ?_, .other w1 l e r rfl w2 hw2 (mem (f := weighT w1) rfl fun x hx => ?_)⟩
          · unfold F__law_here_changed g__law_here_changed
            simp only [dIx_pick, dMod, dDiv, dList, dTuple, dRev, dSl, Int.reduceLT, Int.reduceLE, Int.reduceEq, Int.reduceSub, Int.reduceAdd, and_self, true_and, and_true, and_false, false_and, Int.cast_ofNat_Int, decide_true, decide_false, Bool.true_and, Bool.false_and, Bool.and_true, Bool.and_false, dIx_t0, dIx_t1, dIx_l0, dIx_l1, toItems, itemsOf, runF, runL, startE, endF, endL, R.bind_ok, R.bind_exc, R.bind_stuck, gSeq, gIf, gSet, gOwn, gRet, gRetL, gRetO, gDrop, gTgt, gT, gsC, gsN, gN, gFor, gApp, gExt, gFrz, gNil, gExc, eVar, eC, e1, e2, eA, aNil, aCons, eTup, eLst, eCall, lCall, listR, eChain, tV, tAndD, tOrD, tNotD, eAnd, eOr, eNot, eIf, eL, lDisp, lList, lRep, oNone, oSome, eSl, iSeq, iRng1, iRng2, iZipD, iEnumD, iRevD, lListRange, lLc, eSorted, eSortSet, eLenSet, eBor, tBor, tYesD, noE, toB, dCmp, dSub, dNeg, dInt, dLen, dIs, dIsNot, List.map_cons, List.map_nil, List.length_cons, List.length_nil, Nat.reduceAdd, Nat.reduceSub, Nat.reduceLeDiff, List.replicate, List.cons_append, List.nil_append, List.append_nil, List.getElem?_cons_zero, List.getElem?_cons_succ, List.set_cons_zero, List.set_cons_succ, if_true, if_false, reduceIte, Bool.not_true, Bool.not_false, Bool.false_eq_true, reduceCtorEq, dEq_int, n0, weigh_told, d0, encP, h1, List.length_map, p3, ← ew, dRevT, dAdd, cut3_10, cut3_20, cut3_30, cut3_00, cut3_01, cut3_02]
            rfl
          · simp only [List.mem_cons, List.not_mem_nil, or_false] at hx
            rcases hx with rfl | rfl | rfl | rfl | rfl | rfl <;> (repeat (first | exact List.Mem.head _ | apply List.Mem.tail))
        · refine ⟨pick [.tuple [.str sWeigh, encW w1, .tuple [encP l, encP e, encP r], .none], .tuple [.str sWeigh, encW w1], .list [.str sWeigh, encW w1, .tuple [encP l, encP e, encP r]], .tuple [.str (Str.ofString "Weigh"), encW w1, .tuple [encP l, encP e, encP r]], .tuple [.int 5, encW w1, .tuple [encP l, encP e, encP r]], .tuple [.tuple [encP l, encP e, encP r], encW w1, .str sWeigh]] (v / 6) 6, ?_, .other w1 l e r rfl w2 hw2 (mem (f := fun x => x) rfl fun x hx => ?_)⟩
          · unfold F__law_here_changed g__law_here_changed
            simp only [dIx_pick, dMod, dDiv, dList, dTuple, dRev, dSl, Int.reduceLT, Int.reduceLE, Int.reduceEq, Int.reduceSub, Int.reduceAdd, and_self, true_and, and_true, and_false, false_and, Int.cast_ofNat_Int, decide_true, decide_false, Bool.true_and, Bool.false_and, Bool.and_true, Bool.and_false, dIx_t0, dIx_t1, dIx_l0, dIx_l1, toItems, itemsOf, runF, runL, startE, endF, endL, R.bind_ok, R.bind_exc, R.bind_stuck, gSeq, gIf, gSet, gOwn, gRet, gRetL, gRetO, gDrop, gTgt, gT, gsC, gsN, gN, gFor, gApp, gExt, gFrz, gNil, gExc, eVar, eC, e1, e2, eA, aNil, aCons, eTup, eLst, eCall, lCall, listR, eChain, tV, tAndD, tOrD, tNotD, eAnd, eOr, eNot, eIf, eL, lDisp, lList, lRep, oNone, oSome, eSl, iSeq, iRng1, iRng2, iZipD, iEnumD, iRevD, lListRange, lLc, eSorted, eSortSet, eLenSet, eBor, tBor, tYesD, noE, toB, dCmp, dSub, dNeg, dInt, dLen, dIs, dIsNot, List.map_cons, List.map_nil, List.length_cons, List.length_nil, Nat.reduceAdd, Nat.reduceSub, Nat.reduceLeDiff, List.replicate, List.cons_append, List.nil_append, List.append_nil, List.getElem?_cons_zero, List.getElem?_cons_succ, List.set_cons_zero, List.set_cons_succ, if_true, if_false, reduceIte, Bool.not_true, Bool.not_false, Bool.false_eq_true, reduceCtorEq, dEq_int, n0, weigh_told, d0, encP, h1, List.length_map, p3, ← ew, dRevT, dAdd, cut3_10, cut3_20, cut3_30, cut3_00, cut3_01, cut3_02]
            rfl
          · simp only [List.mem_cons, List.not_mem_nil, or_false] at hx
            rcases hx with rfl | rfl | rfl | rfl | rfl | rfl <;> (repeat (first | exact List.Mem.head _ | apply List.Mem.tail))
        · refine ⟨weighT (swapW w1) (.tuple [encP r, encP e, encP l]), ?_, .other w1 l e r rfl w2 hw2 ?_⟩
          · unfold F__law_here_changed g__law_here_changed
            simp only [dIx_pick, dMod, dDiv, dList, dTuple, dRev, dSl, Int.reduceLT, Int.reduceLE, Int.reduceEq, Int.reduceSub, Int.reduceAdd, and_self, true_and, and_true, and_false, false_and, Int.cast_ofNat_Int, decide_true, decide_false, Bool.true_and, Bool.false_and, Bool.and_true, Bool.and_false, dIx_t0, dIx_t1, dIx_l0, dIx_l1, toItems, itemsOf, runF, runL, startE, endF, endL, R.bind_ok, R.bind_exc, R.bind_stuck, gSeq, gIf, gSet, gOwn, gRet, gRetL, gRetO, gDrop, gTgt, gT, gsC, gsN, gN, gFor, gApp, gExt, gFrz, gNil, gExc, eVar, eC, e1, e2, eA, aNil, aCons, eTup, eLst, eCall, lCall, listR, eChain, tV, tAndD, tOrD, tNotD, eAnd, eOr, eNot, eIf, eL, lDisp, lList, lRep, oNone, oSome, eSl, iSeq, iRng1, iRng2, iZipD, iEnumD, iRevD, lListRange, lLc, eSorted, eSortSet, eLenSet, eBor, tBor, tYesD, noE, toB, dCmp, dSub, dNeg, dInt, dLen, dIs, dIsNot, List.map_cons, List.map_nil, List.length_cons, List.length_nil, Nat.reduceAdd, Nat.reduceSub, Nat.reduceLeDiff, List.replicate, List.cons_append, List.nil_append, List.append_nil, List.getElem?_cons_zero, List.getElem?_cons_succ, List.set_cons_zero, List.set_cons_succ, if_true, if_false, reduceIte, Bool.not_true, Bool.not_false, Bool.false_eq_true, reduceCtorEq, dEq_int, n0, weigh_told, d0, encP, h1, List.length_map, p3, ← ew, dRevT, dAdd, encW]
            rfl
          · repeat (first | exact List.Mem.head _ | apply List.Mem.tail)
        · have h3 : v / 6 % 3 = 0 ∨ v / 6 % 3 = 1 ∨ v / 6 % 3 = 2 := by omega
          rw [encP] at eth'
          rcases h3 with h3 | h3 | h3
          · refine ⟨weighT w1 (.tuple [pick (thingM (encP (.weigh w1 l e r)) c' w') (v / 18) 16, encP e, encP r]), ?_, .part w1 l e r rfl c' w' hcc' hw' _ thing_mem (.inl rfl)⟩
            unfold F__law_here_changed g__law_here_changed
            simp only [dIx_pick, dMod, dDiv, dList, dTuple, dRev, dSl, Int.reduceLT, Int.reduceLE, Int.reduceEq, Int.reduceSub, Int.reduceAdd, and_self, true_and, and_true, and_false, false_and, Int.cast_ofNat_Int, decide_true, decide_false, Bool.true_and, Bool.false_and, Bool.and_true, Bool.and_false, dIx_t0, dIx_t1, dIx_l0, dIx_l1, toItems, itemsOf, runF, runL, startE, endF, endL, R.bind_ok, R.bind_exc, R.bind_stuck, gSeq, gIf, gSet, gOwn, gRet, gRetL, gRetO, gDrop, gTgt, gT, gsC, gsN, gN, gFor, gApp, gExt, gFrz, gNil, gExc, eVar, eC, e1, e2, eA, aNil, aCons, eTup, eLst, eCall, lCall, listR, eChain, tV, tAndD, tOrD, tNotD, eAnd, eOr, eNot, eIf, eL, lDisp, lList, lRep, oNone, oSome, eSl, iSeq, iRng1, iRng2, iZipD, iEnumD, iRevD, lListRange, lLc, eSorted, eSortSet, eLenSet, eBor, tBor, tYesD, noE, toB, dCmp, dSub, dNeg, dInt, dLen, dIs, dIsNot, List.map_cons, List.map_nil, List.length_cons, List.length_nil, Nat.reduceAdd, Nat.reduceSub, Nat.reduceLeDiff, List.replicate, List.cons_append, List.nil_append, List.append_nil, List.getElem?_cons_zero, List.getElem?_cons_succ, List.set_cons_zero, List.set_cons_succ, if_true, if_false, reduceIte, Bool.not_true, Bool.not_false, Bool.false_eq_true, reduceCtorEq, dEq_int, n0, weigh_told, d0, encP, h1, h3, List.length_map, p3, ← ew, dAdd, cut3_10, cut3_20, cut3_30, cut3_00, cut3_01, cut3_02, eth']
            rfl
          · refine ⟨weighT w1 (.tuple [encP l, pick (thingM (encP (.weigh w1 l e r)) c' w') (v / 18) 16, encP r]), ?_, .part w1 l e r rfl c' w' hcc' hw' _ thing_mem (.inr (.inl rfl))⟩
            unfold F__law_here_changed g__law_here_changed
            simp only [dIx_pick, dMod, dDiv, dList, dTuple, dRev, dSl, Int.reduceLT, Int.reduceLE, Int.reduceEq, Int.reduceSub, Int.reduceAdd, and_self, true_and, and_true, and_false, false_and, Int.cast_ofNat_Int, decide_true, decide_false, Bool.true_and, Bool.false_and, Bool.and_true, Bool.and_false, dIx_t0, dIx_t1, dIx_l0, dIx_l1, toItems, itemsOf, runF, runL, startE, endF, endL, R.bind_ok, R.bind_exc, R.bind_stuck, gSeq, gIf, gSet, gOwn, gRet, gRetL, gRetO, gDrop, gTgt, gT, gsC, gsN, gN, gFor, gApp, gExt, gFrz, gNil, gExc, eVar, eC, e1, e2, eA, aNil, aCons, eTup, eLst, eCall, lCall, listR, eChain, tV, tAndD, tOrD, tNotD, eAnd, eOr, eNot, eIf, eL, lDisp, lList, lRep, oNone, oSome, eSl, iSeq, iRng1, iRng2, iZipD, iEnumD, iRevD, lListRange, lLc, eSorted, eSortSet, eLenSet, eBor, tBor, tYesD, noE, toB, dCmp, dSub, dNeg, dInt, dLen, dIs, dIsNot, List.map_cons, List.map_nil, List.length_cons, List.length_nil, Nat.reduceAdd, Nat.reduceSub, Nat.reduceLeDiff, List.replicate, List.cons_append, List.nil_append, List.append_nil, List.getElem?_cons_zero, List.getElem?_cons_succ, List.set_cons_zero, List.set_cons_succ, if_true, if_false, reduceIte, Bool.not_true, Bool.not_false, Bool.false_eq_true, reduceCtorEq, dEq_int, n0, weigh_told, d0, encP, h1, h3, List.length_map, p3, ← ew, dAdd, cut3_10, cut3_20, cut3_30, cut3_00, cut3_01, cut3_02, eth']
            rfl
          · refine ⟨weighT w1 (.tuple [encP l, encP e, pick (thingM (encP (.weigh w1 l e r)) c' w') (v / 18) 16]), ?_, .part w1 l e r rfl c' w' hcc' hw' _ thing_mem (.inr (.inr rfl))⟩
            unfold F__law_here_changed g__law_here_changed
            simp only [dIx_pick, dMod, dDiv, dList, dTuple, dRev, dSl, Int.reduceLT, Int.reduceLE, Int.reduceEq, Int.reduceSub, Int.reduceAdd, and_self, true_and, and_true, and_false, false_and, Int.cast_ofNat_Int, decide_true, decide_false, Bool.true_and, Bool.false_and, Bool.and_true, Bool.and_false, dIx_t0, dIx_t1, dIx_l0, dIx_l1, toItems, itemsOf, runF, runL, startE, endF, endL, R.bind_ok, R.bind_exc, R.bind_stuck, gSeq, gIf, gSet, gOwn, gRet, gRetL, gRetO, gDrop, gTgt, gT, gsC, gsN, gN, gFor, gApp, gExt, gFrz, gNil, gExc, eVar, eC, e1, e2, eA, aNil, aCons, eTup, eLst, eCall, lCall, listR, eChain, tV, tAndD, tOrD, tNotD, eAnd, eOr, eNot, eIf, eL, lDisp, lList, lRep, oNone, oSome, eSl, iSeq, iRng1, iRng2, iZipD, iEnumD, iRevD, lListRange, lLc, eSorted, eSortSet, eLenSet, eBor, tBor, tYesD, noE, toB, dCmp, dSub, dNeg, dInt, dLen, dIs, dIsNot, List.map_cons, List.map_nil, List.length_cons, List.length_nil, Nat.reduceAdd, Nat.reduceSub, Nat.reduceLeDiff, List.replicate, List.cons_append, List.nil_append, List.append_nil, List.getElem?_cons_zero, List.getElem?_cons_succ, List.set_cons_zero, List.set_cons_succ, if_true, if_false, reduceIte, Bool.not_true, Bool.not_false, Bool.false_eq_true, reduceCtorEq, dEq_int, n0, weigh_told, d0, encP, h1, h3, List.length_map, p3, ← ew, dAdd, cut3_10, cut3_20, cut3_30, cut3_00, cut3_01, cut3_02, eth']
            rfl
end W

set_option Elab.async false
set_option linter.all false
set_option maxRecDepth 100000
set_option maxHeartbeats 2000000
namespace W
open PySem PL
inductive ChR (m : Nat) (cs : List (List Int)) : Pl → D → Prop
  | here {q : Pl} {t : D} (h : HereR m cs q t) : ChR m cs q t
  | l {w1 : Wg} {l e r : Pl} {x : D} (h : ChR m cs l x) : ChR m cs (.weigh w1 l e r) (weighT w1 (.tuple [x, encP e, encP r]))
  | e {w1 : Wg} {l e r : Pl} {x : D} (h : ChR m cs e x) : ChR m cs (.weigh w1 l e r) (weighT w1 (.tuple [encP l, x, encP r]))
  | r {w1 : Wg} {l e r : Pl} {x : D} (h : ChR m cs r x) : ChR m cs (.weigh w1 l e r) (weighT w1 (.tuple [encP l, encP e, x]))
theorem isnot_none (q : Pl) : dIsNot (encP q) .none = .ok (.bool (!isNone q)) := by cases q <;> rfl
def kidsP (l e r : Pl) : List (Int × Pl) := [(0, l), (1, e), (2, r)].filter fun p => !isNone p.2
theorem c_chg (Rf : List D → PL.R D) (w1 : Wg) (l e r : Pl) (s1 s2 s3 s4 s5 s6 : PL.Slot noObj) : c__law_changed_1 Rf [.val (encP (.weigh w1 l e r)), s1, s2, s3, s4, s5, s6, .no] = .ok ((kidsP l e r).map fun p => .int p.1) := by
  unfold c__law_changed_1
  have r3 : rangeD 0 3 = [.int 0, .int 1, .int 2] := rfl
  have ix2' : ∀ a b c : D, dIx (.tuple [a, b, c]) (.int 2) = .ok c := fun _ _ _ => rfl
  unfold kidsP
  rw [encP]
  simp only [dIx_t0, dIx_t1, dIx_l0, dIx_l1, toItems, itemsOf, runF, runL, startE, endF, endL, R.bind_ok, R.bind_exc, R.bind_stuck, gSeq, gIf, gSet, gOwn, gRet, gRetL, gRetO, gDrop, gTgt, gT, gsC, gsN, gN, gFor, gApp, gExt, gFrz, gNil, gExc, eVar, eC, e1, e2, eA, aNil, aCons, eTup, eLst, eCall, lCall, listR, eChain, tV, tAndD, tOrD, tNotD, eAnd, eOr, eNot, eIf, eL, lDisp, lList, lRep, oNone, oSome, eSl, iSeq, iRng1, iRng2, iZipD, iEnumD, iRevD, lListRange, lLc, eSorted, eSortSet, eLenSet, eBor, tBor, tYesD, noE, toB, dCmp, dSub, dNeg, dInt, dLen, dIs, dIsNot, List.map_cons, List.map_nil, List.length_cons, List.length_nil, Nat.reduceAdd, Nat.reduceSub, Nat.reduceLeDiff, List.replicate, List.cons_append, List.nil_append, List.append_nil, List.getElem?_cons_zero, List.getElem?_cons_succ, List.set_cons_zero, List.set_cons_succ, if_true, if_false, reduceIte, Bool.not_true, Bool.not_false, Bool.false_eq_true, reduceCtorEq, r3]
  rw [if_pos (by decide)]
  simp only [dIx_t0, dIx_t1, dIx_l0, dIx_l1, toItems, itemsOf, runF, runL, startE, endF, endL, R.bind_ok, R.bind_exc, R.bind_stuck, gSeq, gIf, gSet, gOwn, gRet, gRetL, gRetO, gDrop, gTgt, gT, gsC, gsN, gN, gFor, gApp, gExt, gFrz, gNil, gExc, eVar, eC, e1, e2, eA, aNil, aCons, eTup, eLst, eCall, lCall, listR, eChain, tV, tAndD, tOrD, tNotD, eAnd, eOr, eNot, eIf, eL, lDisp, lList, lRep, oNone, oSome, eSl, iSeq, iRng1, iRng2, iZipD, iEnumD, iRevD, lListRange, lLc, eSorted, eSortSet, eLenSet, eBor, tBor, tYesD, noE, toB, dCmp, dSub, dNeg, dInt, dLen, dIs, dIsNot, List.map_cons, List.map_nil, List.length_cons, List.length_nil, Nat.reduceAdd, Nat.reduceSub, Nat.reduceLeDiff, List.replicate, List.cons_append, List.nil_append, List.append_nil, List.getElem?_cons_zero, List.getElem?_cons_succ, List.set_cons_zero, List.set_cons_succ, if_true, if_false, reduceIte, Bool.not_true, Bool.not_false, Bool.false_eq_true, reduceCtorEq]
  rw [if_pos ⟨by decide, rfl⟩]
  refine noE_of ?_
  simp only [eachR]
  unfold lcStep
  cases l <;> cases e <;> cases r <;> simp only [dIx_pick, dMod, dDiv, dList, dTuple, dRev, dSl, Int.reduceLT, Int.reduceLE, Int.reduceEq, Int.reduceSub, Int.reduceAdd, and_self, true_and, and_true, and_false, false_and, Int.cast_ofNat_Int, decide_true, decide_false, Bool.true_and, Bool.false_and, Bool.and_true, Bool.and_false, dIx_t0, dIx_t1, dIx_l0, dIx_l1, toItems, itemsOf, runF, runL, startE, endF, endL, R.bind_ok, R.bind_exc, R.bind_stuck, gSeq, gIf, gSet, gOwn, gRet, gRetL, gRetO, gDrop, gTgt, gT, gsC, gsN, gN, gFor, gApp, gExt, gFrz, gNil, gExc, eVar, eC, e1, e2, eA, aNil, aCons, eTup, eLst, eCall, lCall, listR, eChain, tV, tAndD, tOrD, tNotD, eAnd, eOr, eNot, eIf, eL, lDisp, lList, lRep, oNone, oSome, eSl, iSeq, iRng1, iRng2, iZipD, iEnumD, iRevD, lListRange, lLc, eSorted, eSortSet, eLenSet, eBor, tBor, tYesD, noE, toB, dCmp, dSub, dNeg, dInt, dLen, dIs, dIsNot, List.map_cons, List.map_nil, List.length_cons, List.length_nil, Nat.reduceAdd, Nat.reduceSub, Nat.reduceLeDiff, List.replicate, List.cons_append, List.nil_append, List.append_nil, List.getElem?_cons_zero, List.getElem?_cons_succ, List.set_cons_zero, List.set_cons_succ, if_true, if_false, reduceIte, Bool.not_true, Bool.not_false, Bool.false_eq_true, reduceCtorEq, wipeE, encP, ix2', List.filter, isNone, dIsNot]
theorem valid_nil {m : Nat} {q : Pl} (h : ValidP m [] q) : isNone q = true := by
  cases q with
  | none => rfl
  | told c => cases (show [] = [c] from h)
  | weigh w l e r => exact absurd rfl (show ([] : List (List Int)) ≠ [] ∧ _ from h).1
theorem changed_eq {m : Nat} (hm : Many m) {cs : List (List Int)} (hc : ∀ c ∈ cs, CaseOk m c) (hcs : cs ≠ []) (hl : cs.length ≤ 100) : ∀ (q : Pl) (n : Nat) (bs : List (List Int)) (v : Int), hgt q + 1 ≤ n → hgt q ≤ 39 → bs ≠ [] → bs.length ≤ 100 → (∀ c ∈ bs, c ∈ cs) → ValidP m bs q →
    ∃ t, F__law_changed n [encP q, .list ((Ws m).map encW), .list (cs.map encC), .int v] = .ok t ∧ ChR m cs q t
  | .none, n, bs, v, _, _, hbs, _, _, hv => absurd hv hbs
  | .told d, n, bs, v, hn, hh, hbs, hbl, hb, hv => by
    obtain ⟨n, rfl⟩ : ∃ n', n = n' + 1 := ⟨n - 1, by omega⟩
    obtain ⟨t, e, h⟩ := here_eq hm hc hcs hl hbl hb hbs hv hh (v / 3)
    refine ⟨t, ?_, .here h⟩
    show runF 8 (g__law_changed (F__law_changed n)) _ = _
    unfold g__law_changed
    rw [encP] at e ⊢
    simp only [dIx_pick, dMod, dDiv, dList, dTuple, dRev, dSl, Int.reduceLT, Int.reduceLE, Int.reduceEq, Int.reduceSub, Int.reduceAdd, and_self, true_and, and_true, and_false, false_and, Int.cast_ofNat_Int, decide_true, decide_false, Bool.true_and, Bool.false_and, Bool.and_true, Bool.and_false, dIx_t0, dIx_t1, dIx_l0, dIx_l1, toItems, itemsOf, runF, runL, startE, endF, endL, R.bind_ok, R.bind_exc, R.bind_stuck, gSeq, gIf, gSet, gOwn, gRet, gRetL, gRetO, gDrop, gTgt, gT, gsC, gsN, gN, gFor, gApp, gExt, gFrz, gNil, gExc, eVar, eC, e1, e2, eA, aNil, aCons, eTup, eLst, eCall, lCall, listR, eChain, tV, tAndD, tOrD, tNotD, eAnd, eOr, eNot, eIf, eL, lDisp, lList, lRep, oNone, oSome, eSl, iSeq, iRng1, iRng2, iZipD, iEnumD, iRevD, lListRange, lLc, eSorted, eSortSet, eLenSet, eBor, tBor, tYesD, noE, toB, dCmp, dSub, dNeg, dInt, dLen, dIs, dIsNot, List.map_cons, List.map_nil, List.length_cons, List.length_nil, Nat.reduceAdd, Nat.reduceSub, Nat.reduceLeDiff, List.replicate, List.cons_append, List.nil_append, List.append_nil, List.getElem?_cons_zero, List.getElem?_cons_succ, List.set_cons_zero, List.set_cons_succ, if_true, if_false, reduceIte, Bool.not_true, Bool.not_false, Bool.false_eq_true, reduceCtorEq, dEq_str okTold okWeigh, decide_eq_false (show ¬ sTold = sWeigh from fun z => told_ne z.symm), e]
  | .weigh w1 l e r, n, bs, v, hn, hh, hbs, hbl, hb, hv => by
    obtain ⟨n, rfl⟩ : ∃ n', n = n' + 1 := ⟨n - 1, by omega⟩
    have hv0 := hv
    obtain ⟨_, hw, hlk, v0, v1, v2⟩ := hv
    simp only [hgt] at hn hh
    have sub : ∀ d, ∀ c ∈ byW w1 d bs, c ∈ cs := fun d c h => hb c (by_sub c h)
    have subl : ∀ d, (byW w1 d bs).length ≤ 100 := fun d => Nat.le_trans (List.length_filter_le _ _) hbl
    have ww : dEq (.str sWeigh) (.str sWeigh) = .ok (.bool true) := by rw [dEq_str okWeigh okWeigh, decide_eq_true rfl]
    by_cases h3 : (0 : Int) < v % 3
    · have kne : kidsP l e r ≠ [] := by
        intro z
        unfold kidsP at z
        rw [List.filter_eq_nil_iff] at z
        have a0 := z (0, l) (by simp)
        have a1 := z (1, e) (by simp)
        have a2 := z (2, r) (by simp)
        simp only [Bool.not_eq_true', Bool.not_eq_false] at a0 a1 a2
        have n0 : byW w1 (-1) bs = [] := by cases l with
          | none => exact v0
          | _ => cases a0
        have n1 : byW w1 0 bs = [] := by cases e with
          | none => exact v1
          | _ => cases a1
        have n2 : byW w1 1 bs = [] := by cases r with
          | none => exact v2
          | _ => cases a2
        have := by_len w1 bs
        rw [n0, n1, n2] at this
        exact hbs (List.length_eq_zero_iff.mp this.symm)
      have p3 : (0 : Int) < ((kidsP l e r).length : Nat) := by have := List.length_pos_iff.mpr kne; omega
      have p4 : (((kidsP l e r).map fun p => PyData.int p.1).length : Int) = ((kidsP l e r).length : Nat) := by rw [List.length_map]
      obtain ⟨p, hp, ep⟩ := List.mem_map.mp (pick_mem (c := v / 3) p4 p3)
      have hp' := List.mem_filter.mp hp
      have cc := fun s1 s2 s3 s4 s5 s6 => c_chg (F__law_changed n) w1 l e r s1 s2 s3 s4 s5 s6
      have knil : ∀ {q : Pl} {d : Int}, isNone q = false → ValidP m (byW w1 d bs) q → byW w1 d bs ≠ [] := fun {q d} hi hv z => by
        rw [z] at hv
        rw [valid_nil hv] at hi
        cases hi
      simp only [List.mem_cons, List.not_mem_nil, or_false] at hp'
      obtain ⟨rfl | rfl | rfl, hi⟩ := hp'
      · simp only [Bool.not_eq_true'] at hi
        obtain ⟨t, et, ht⟩ := changed_eq hm hc hcs hl l n _ (v / 9) (by omega) (by omega) (knil hi v0) (subl _) (sub _) v0
        refine ⟨_, ?_, .l ht⟩
        show runF 8 (g__law_changed (F__law_changed n)) _ = _
        unfold g__law_changed
        have cc' := fun s1 s2 s3 s4 s5 s6 => cc s1 s2 s3 s4 s5 s6
        rw [encP] at cc' ⊢
        simp only [dIx_pick, dMod, dDiv, dList, dTuple, dRev, dSl, Int.reduceLT, Int.reduceLE, Int.reduceEq, Int.reduceSub, Int.reduceAdd, and_self, true_and, and_true, and_false, false_and, Int.cast_ofNat_Int, decide_true, decide_false, Bool.true_and, Bool.false_and, Bool.and_true, Bool.and_false, dIx_t0, dIx_t1, dIx_l0, dIx_l1, toItems, itemsOf, runF, runL, startE, endF, endL, R.bind_ok, R.bind_exc, R.bind_stuck, gSeq, gIf, gSet, gOwn, gRet, gRetL, gRetO, gDrop, gTgt, gT, gsC, gsN, gN, gFor, gApp, gExt, gFrz, gNil, gExc, eVar, eC, e1, e2, eA, aNil, aCons, eTup, eLst, eCall, lCall, listR, eChain, tV, tAndD, tOrD, tNotD, eAnd, eOr, eNot, eIf, eL, lDisp, lList, lRep, oNone, oSome, eSl, iSeq, iRng1, iRng2, iZipD, iEnumD, iRevD, lListRange, lLc, eSorted, eSortSet, eLenSet, eBor, tBor, tYesD, noE, toB, dCmp, dSub, dNeg, dInt, dLen, dIs, dIsNot, List.map_cons, List.map_nil, List.length_cons, List.length_nil, Nat.reduceAdd, Nat.reduceSub, Nat.reduceLeDiff, List.replicate, List.cons_append, List.nil_append, List.append_nil, List.getElem?_cons_zero, List.getElem?_cons_succ, List.set_cons_zero, List.set_cons_succ, if_true, if_false, reduceIte, Bool.not_true, Bool.not_false, Bool.false_eq_true, reduceCtorEq, ww, decide_eq_true h3, cc', List.length_map, p3, ← ep, ix2, et, dAdd, cut3_10, cut3_20, cut3_30, cut3_00, cut3_01, cut3_02, weighT]
      · simp only [Bool.not_eq_true'] at hi
        obtain ⟨t, et, ht⟩ := changed_eq hm hc hcs hl e n _ (v / 9) (by omega) (by omega) (knil hi v1) (subl _) (sub _) v1
        refine ⟨_, ?_, .e ht⟩
        show runF 8 (g__law_changed (F__law_changed n)) _ = _
        unfold g__law_changed
        have cc' := fun s1 s2 s3 s4 s5 s6 => cc s1 s2 s3 s4 s5 s6
        rw [encP] at cc' ⊢
        simp only [dIx_pick, dMod, dDiv, dList, dTuple, dRev, dSl, Int.reduceLT, Int.reduceLE, Int.reduceEq, Int.reduceSub, Int.reduceAdd, and_self, true_and, and_true, and_false, false_and, Int.cast_ofNat_Int, decide_true, decide_false, Bool.true_and, Bool.false_and, Bool.and_true, Bool.and_false, dIx_t0, dIx_t1, dIx_l0, dIx_l1, toItems, itemsOf, runF, runL, startE, endF, endL, R.bind_ok, R.bind_exc, R.bind_stuck, gSeq, gIf, gSet, gOwn, gRet, gRetL, gRetO, gDrop, gTgt, gT, gsC, gsN, gN, gFor, gApp, gExt, gFrz, gNil, gExc, eVar, eC, e1, e2, eA, aNil, aCons, eTup, eLst, eCall, lCall, listR, eChain, tV, tAndD, tOrD, tNotD, eAnd, eOr, eNot, eIf, eL, lDisp, lList, lRep, oNone, oSome, eSl, iSeq, iRng1, iRng2, iZipD, iEnumD, iRevD, lListRange, lLc, eSorted, eSortSet, eLenSet, eBor, tBor, tYesD, noE, toB, dCmp, dSub, dNeg, dInt, dLen, dIs, dIsNot, List.map_cons, List.map_nil, List.length_cons, List.length_nil, Nat.reduceAdd, Nat.reduceSub, Nat.reduceLeDiff, List.replicate, List.cons_append, List.nil_append, List.append_nil, List.getElem?_cons_zero, List.getElem?_cons_succ, List.set_cons_zero, List.set_cons_succ, if_true, if_false, reduceIte, Bool.not_true, Bool.not_false, Bool.false_eq_true, reduceCtorEq, ww, decide_eq_true h3, cc', List.length_map, p3, ← ep, ix2, et, dAdd, cut3_10, cut3_20, cut3_30, cut3_00, cut3_01, cut3_02, weighT]
      · simp only [Bool.not_eq_true'] at hi
        obtain ⟨t, et, ht⟩ := changed_eq hm hc hcs hl r n _ (v / 9) (by omega) (by omega) (knil hi v2) (subl _) (sub _) v2
        refine ⟨_, ?_, .r ht⟩
        show runF 8 (g__law_changed (F__law_changed n)) _ = _
        unfold g__law_changed
        have cc' := fun s1 s2 s3 s4 s5 s6 => cc s1 s2 s3 s4 s5 s6
        rw [encP] at cc' ⊢
        simp only [dIx_pick, dMod, dDiv, dList, dTuple, dRev, dSl, Int.reduceLT, Int.reduceLE, Int.reduceEq, Int.reduceSub, Int.reduceAdd, and_self, true_and, and_true, and_false, false_and, Int.cast_ofNat_Int, decide_true, decide_false, Bool.true_and, Bool.false_and, Bool.and_true, Bool.and_false, dIx_t0, dIx_t1, dIx_l0, dIx_l1, toItems, itemsOf, runF, runL, startE, endF, endL, R.bind_ok, R.bind_exc, R.bind_stuck, gSeq, gIf, gSet, gOwn, gRet, gRetL, gRetO, gDrop, gTgt, gT, gsC, gsN, gN, gFor, gApp, gExt, gFrz, gNil, gExc, eVar, eC, e1, e2, eA, aNil, aCons, eTup, eLst, eCall, lCall, listR, eChain, tV, tAndD, tOrD, tNotD, eAnd, eOr, eNot, eIf, eL, lDisp, lList, lRep, oNone, oSome, eSl, iSeq, iRng1, iRng2, iZipD, iEnumD, iRevD, lListRange, lLc, eSorted, eSortSet, eLenSet, eBor, tBor, tYesD, noE, toB, dCmp, dSub, dNeg, dInt, dLen, dIs, dIsNot, List.map_cons, List.map_nil, List.length_cons, List.length_nil, Nat.reduceAdd, Nat.reduceSub, Nat.reduceLeDiff, List.replicate, List.cons_append, List.nil_append, List.append_nil, List.getElem?_cons_zero, List.getElem?_cons_succ, List.set_cons_zero, List.set_cons_succ, if_true, if_false, reduceIte, Bool.not_true, Bool.not_false, Bool.false_eq_true, reduceCtorEq, ww, decide_eq_true h3, cc', List.length_map, p3, ← ep, ix2, et, dAdd, cut3_10, cut3_20, cut3_30, cut3_00, cut3_01, cut3_02, weighT]
    · obtain ⟨t, et, h⟩ := here_eq hm hc hcs hl hbl hb hbs hv0 (by simp only [hgt]; omega) (v / 3)
      refine ⟨t, ?_, .here h⟩
      show runF 8 (g__law_changed (F__law_changed n)) _ = _
      unfold g__law_changed
      rw [encP] at et ⊢
      simp only [dIx_pick, dMod, dDiv, dList, dTuple, dRev, dSl, Int.reduceLT, Int.reduceLE, Int.reduceEq, Int.reduceSub, Int.reduceAdd, and_self, true_and, and_true, and_false, false_and, Int.cast_ofNat_Int, decide_true, decide_false, Bool.true_and, Bool.false_and, Bool.and_true, Bool.and_false, dIx_t0, dIx_t1, dIx_l0, dIx_l1, toItems, itemsOf, runF, runL, startE, endF, endL, R.bind_ok, R.bind_exc, R.bind_stuck, gSeq, gIf, gSet, gOwn, gRet, gRetL, gRetO, gDrop, gTgt, gT, gsC, gsN, gN, gFor, gApp, gExt, gFrz, gNil, gExc, eVar, eC, e1, e2, eA, aNil, aCons, eTup, eLst, eCall, lCall, listR, eChain, tV, tAndD, tOrD, tNotD, eAnd, eOr, eNot, eIf, eL, lDisp, lList, lRep, oNone, oSome, eSl, iSeq, iRng1, iRng2, iZipD, iEnumD, iRevD, lListRange, lLc, eSorted, eSortSet, eLenSet, eBor, tBor, tYesD, noE, toB, dCmp, dSub, dNeg, dInt, dLen, dIs, dIsNot, List.map_cons, List.map_nil, List.length_cons, List.length_nil, Nat.reduceAdd, Nat.reduceSub, Nat.reduceLeDiff, List.replicate, List.cons_append, List.nil_append, List.append_nil, List.getElem?_cons_zero, List.getElem?_cons_succ, List.set_cons_zero, List.set_cons_succ, if_true, if_false, reduceIte, Bool.not_true, Bool.not_false, Bool.false_eq_true, reduceCtorEq, ww, decide_eq_false h3, et]
end W

set_option Elab.async false
set_option linter.all false
set_option maxRecDepth 100000
set_option maxHeartbeats 2000000
namespace W
open PySem PL
theorem fineT_mono {m : Int} {t : D} {f g : D → Prop} (k : ∀ x, f x → g x) (h : fineT m t f) : fineT m t g := ⟨h.1, fun xs e => ⟨(h.2 xs e).1, fun s x rest e' => by
  obtain ⟨a, b, c⟩ := (h.2 xs e).2 s x rest e'
  exact ⟨a, b, fun ps e2 => ⟨(c ps e2).1, fun z1 z2 p hp => k p ((c ps e2).2 z1 z2 p hp)⟩⟩⟩⟩
theorem fine_up {m : Int} : ∀ {k : Nat} {t : D}, fineP m k t → fineP m (k + 1) t
  | 0, t, h => fineT_mono (fun _ z => z.elim) h
  | k + 1, t, h => fineT_mono (fun _ z => fine_up z) h
theorem fine_le {m : Int} {k j : Nat} (h : k ≤ j) {t : D} (f : fineP m k t) : fineP m j t := by
  obtain ⟨d, rfl⟩ : ∃ d, j = k + d := ⟨j - k, by omega⟩
  clear h
  induction d with
  | zero => exact f
  | succ d ih => exact fine_up ih
theorem fine_ty {m : Int} {k : Nat} {t : D} (h : fineP m k t) : tyD t ≠ none := by cases k <;> exact h.1
theorem fine_of {m : Int} {k : Nat} {t : D} (h : fineT m t fun _ => False) : fineP m k t := fine_le (Nat.zero_le _) (show fineP m 0 t from h)
theorem fine_atom {m : Int} {k : Nat} {t : D} (h : tyD t ≠ none) (n : ∀ xs, t ≠ .tuple xs) : fineP m k t := fine_of ⟨h, fun xs e => absurd e (n xs)⟩
theorem fine_nopair {m : Int} {k : Nat} {xs : List D} (h : ∀ y ∈ xs, tyD y ≠ none) (n : ∀ s x rest, xs ≠ .str s :: x :: rest) : fineP m k (.tuple xs) :=
  fine_of ⟨by simp [tyD], fun ys e => by cases e; exact ⟨h, fun s x rest e => absurd e (n s x rest)⟩⟩
theorem look_ty {x : D} (h : lookW x) : tyD x ≠ none := ty_of_sh h.1
theorem fine_pair {m : Int} {k : Nat} {s : Str} {x : D} {rest : List D} (os : PyData.strOk s = true) (hx : lookW x) (hr : ∀ y ∈ rest, tyD y ≠ none) (hp : ∀ ps, rest = [.tuple ps] → (∀ p ∈ ps, tyD p ≠ none) ∧ s ≠ sWeigh) : fineP m k (.tuple (.str s :: x :: rest)) :=
  fine_of ⟨by simp [tyD], fun ys e => by
    cases e
    refine ⟨fun y hy => ?_, fun s' x' rest' e' => ?_⟩
    · rcases List.mem_cons.mp hy with rfl | hy
      · simp [tyD]
      · rcases List.mem_cons.mp hy with rfl | hy
        · exact look_ty hx
        · exact hr y hy
    · cases e'
      exact ⟨os, hx, fun ps e2 => ⟨(hp ps e2).1, fun z => absurd z (hp ps e2).2⟩⟩⟩
theorem fine_w {m : Int} {k : Nat} {x : D} {ps : List D} (hx : lookW x) (hp : ∀ p ∈ ps, fineP m k p) : fineP m (k + 1) (.tuple [.str sWeigh, x, .tuple ps]) :=
  ⟨by simp [tyD], fun ys e => by
    cases e
    refine ⟨fun y hy => ?_, fun s' x' rest' e' => ?_⟩
    · simp only [List.mem_cons, List.not_mem_nil, or_false] at hy
      rcases hy with rfl | rfl | rfl
      · simp [tyD]
      · exact look_ty hx
      · simp [tyD]
    · cases e'
      exact ⟨okWeigh, hx, fun ps' e2 => by
        cases e2
        exact ⟨fun p h => fine_ty (hp p h), fun _ _ => hp⟩⟩⟩
theorem okTell : PyData.strOk (Str.ofString "tell") = true := by decide +kernel
theorem okWEIGH : PyData.strOk (Str.ofString "Weigh") = true := by decide +kernel
theorem tell_ne : Str.ofString "tell" ≠ sWeigh := by decide +kernel
theorem WEIGH_ne : Str.ofString "Weigh" ≠ sWeigh := by decide +kernel
theorem look_enc {m : Nat} (hm : m ≤ 30) {c : List Int} (hc : CaseOk m c) : lookW (encC c) := ⟨sh_up (encC_sh c) (by decide), fun us e => by
  cases e
  refine ⟨by rw [List.length_map, hc.1]; omega, fun ys hy => ?_⟩
  obtain ⟨i, _, z⟩ := List.mem_map.mp hy
  cases z⟩
theorem look_odd {m : Nat} (hm : m ≤ 30) {c : List Int} (hc : CaseOk m c) : lookW (oddC c) := ⟨sh_up (sh_tuple (n := 1) fun x hx => by
    obtain ⟨i, _, rfl⟩ := List.mem_map.mp hx
    split
    · exact sh_int _
    · exact sh_bool _) (by decide), fun us e => by
  cases e
  refine ⟨by rw [List.length_map, hc.1]; omega, fun ys hy => ?_⟩
  obtain ⟨i, _, z⟩ := List.mem_map.mp hy
  split at z <;> cases z⟩
theorem look_lst {xs : List D} (h : sh 60 (.list xs)) : lookW (.list xs) := ⟨h, fun us e => by cases e⟩
theorem look_none : lookW .none := ⟨sh_none, fun us e => by cases e⟩
theorem look_ints (l : List Int) : lookW (.list (l.map PyData.int)) := look_lst (sh_up (sh_list (n := 1) (sh_ints l)) (by decide))
theorem look_wlist (w : Wg) : lookW (.list [.tuple (w.1.map PyData.int), .tuple (w.2.map PyData.int)]) := look_lst (sh_up (sh_list (n := 2) fun x hx => by
  simp only [List.mem_cons, List.not_mem_nil, or_false] at hx
  rcases hx with rfl | rfl
  · exact sh_tuple (sh_ints _)
  · exact sh_tuple (sh_ints _)) (by decide))
theorem fine_told {m : Int} {k : Nat} {x : D} (h : lookW x) : fineP m k (toldT x) := fine_pair okTold h (by simp) fun ps e => by cases e
theorem fine_thing {m : Nat} (hm : Many m) {k : Nat} {q : D} (hq : fineP m k q) {c : List Int} (hc : CaseOk m c) {w : Wg} (hw : w ∈ Ws m) : ∀ t ∈ thingM q c w, fineP m (k + 1) t := fun t ht => by
  have m30 : m ≤ 30 := by rcases hm with rfl | rfl | rfl | rfl <;> decide
  have lw := (lead_of hm hw).look
  have lc := look_enc m30 hc
  have ty2 : ∀ {x y : D}, tyD x ≠ none → tyD y ≠ none → ∀ z ∈ [x, y], tyD z ≠ none := fun hx hy z hz => by
    simp only [List.mem_cons, List.not_mem_nil, or_false] at hz
    rcases hz with rfl | rfl <;> assumption
  unfold thingM at ht
  simp only [List.mem_cons, List.not_mem_nil, or_false] at ht
  rcases ht with rfl | rfl | rfl | rfl | rfl | rfl | rfl | rfl | rfl | rfl | rfl | rfl | rfl | rfl | rfl | rfl
  · exact fine_told lc
  · exact fine_atom (by simp [tyD]) (by simp)
  · exact fine_told (look_odd m30 hc)
  · exact fine_told (look_ints c)
  · exact fine_nopair (by simp [tyD]) (by simp)
  · refine fine_pair okTold lc (by simp [tyD, encC]) fun ps e => ⟨fun p hp => ?_, fun z => told_ne z.symm⟩
    cases e
    obtain ⟨i, _, rfl⟩ := List.mem_map.mp hp
    simp [tyD]
  · refine fine_w lw fun p hp => ?_
    simp only [List.mem_cons, List.not_mem_nil, or_false] at hp
    rcases hp with rfl | rfl | rfl
    · exact fine_atom (by simp [tyD]) (by simp)
    · exact fine_told lc
    · exact fine_atom (by simp [tyD]) (by simp)
  · refine fine_w lw fun p hp => ?_
    simp only [List.mem_cons, List.not_mem_nil, or_false, or_self] at hp
    rw [hp]
    exact hq
  · exact fine_nopair (by simp) (by simp)
  · exact fine_pair okWeigh lw (by simp) fun ps e => by cases e
  · exact fine_atom (by simp [tyD]) (by simp)
  · exact fine_atom (by simp [tyD]) (by simp)
  · exact fine_atom (by simp [tyD]) (by simp)
  · exact fine_pair okTell lc (by simp) fun ps e => by cases e
  · exact fine_nopair (ty2 (by simp [tyD]) (by simp [tyD, encC])) (by simp)
  · exact fine_atom (by simp [tyD]) (by simp)
theorem fine_here {m : Nat} (hm : Many m) {k : Nat} {l e r : D} (hl : fineP m k l) (he : fineP m k e) (hr : fineP m k r) {w1 w : Wg} (l1 : w1.1.length ≤ 30) (l2 : w1.2.length ≤ 30) (hw : w ∈ Ws m) : ∀ t ∈ hereM w1 l e r w, fineP m (k + 1) t := fun t ht => by
  have lw := (lead_of hm hw).look
  have lw1 : lookW (encW w1) := lookW_enc l1 l2
  have lws : lookW (encW (swapW w1)) := lookW_enc l2 l1
  have lwd : lookW (encW (w1.1, w1.1)) := lookW_enc l1 l1
  have p3 : ∀ p ∈ [l, e, r], fineP m k p := fun p hp => by
    simp only [List.mem_cons, List.not_mem_nil, or_false] at hp
    rcases hp with rfl | rfl | rfl <;> assumption
  have p3' : ∀ p ∈ [r, e, l], fineP m k p := fun p hp => by
    simp only [List.mem_cons, List.not_mem_nil, or_false] at hp
    rcases hp with rfl | rfl | rfl <;> assumption
  have p2 : ∀ p ∈ [l, e], fineP m k p := fun p hp => by
    simp only [List.mem_cons, List.not_mem_nil, or_false] at hp
    rcases hp with rfl | rfl <;> assumption
  have p4 : ∀ p ∈ [l, e, r, .none], fineP m k p := fun p hp => by
    simp only [List.mem_cons, List.not_mem_nil, or_false] at hp
    rcases hp with rfl | rfl | rfl | rfl
    · exact hl
    · exact he
    · exact hr
    · exact fine_atom (by simp [tyD]) (by simp)
  have tw : tyD (encW w1) ≠ none := encW_ty w1
  unfold hereM at ht
  simp only [List.mem_cons, List.not_mem_nil, or_false] at ht
  rcases ht with rfl | rfl | rfl | rfl | rfl | rfl | rfl | rfl | rfl | rfl | rfl | rfl | rfl | rfl | rfl | rfl | rfl | rfl
  · exact fine_w lws p3
  · exact fine_w lw p3
  · exact fine_w (look_wlist w1) p3
  · exact fine_w lwd p3
  · exact fine_w look_none p3
  · exact fine_w lw1 p3'
  · exact fine_pair okWeigh lw1 (by simp [tyD]) fun ps e => by cases e
  · exact fine_w lw1 p4
  · exact fine_w lw1 p2
  · exact fine_pair okWeigh lw1 (by simp [tyD]) fun ps e => by cases e
  · exact fine_w lw1 (by simp)
  · exact fine_pair okWeigh lw1 (by simp [tyD]) fun ps e => by cases e
  · exact fine_pair okWeigh lw1 (by simp) fun ps e => by cases e
  · exact fine_atom (by simp [tyD]) (by simp)
  · exact fine_pair okWEIGH lw1 (by simp [tyD]) fun ps e => ⟨fun p hp => by cases e; exact fine_ty (p3 p hp), WEIGH_ne⟩
  · refine fine_nopair (fun y hy => ?_) (by simp)
    simp only [List.mem_cons, List.not_mem_nil, or_false] at hy
    rcases hy with rfl | rfl | rfl
    · simp [tyD]
    · exact tw
    · simp [tyD]
  · refine fine_nopair (fun y hy => ?_) (by simp)
    simp only [List.mem_cons, List.not_mem_nil, or_false] at hy
    rcases hy with rfl | rfl | rfl
    · simp [tyD]
    · exact tw
    · simp [tyD]
  · exact fine_w lws p3'
/-- short weighings throughout -/
def shortP : Pl → Prop
  | .weigh w l e r => w.1.length ≤ 30 ∧ w.2.length ≤ 30 ∧ shortP l ∧ shortP e ∧ shortP r
  | _ => True
theorem valid_short {m : Nat} : ∀ {q : Pl} {cs : List (List Int)}, ValidP m cs q → shortP q
  | .none, _, _ => trivial
  | .told _, _, _ => trivial
  | .weigh w l e r, cs, hv => by
    obtain ⟨_, hw, hlk, v0, v1, v2⟩ := hv
    obtain ⟨_, h3⟩ := hlk
    obtain ⟨_, h4⟩ := h3 _ rfl
    have l1 := h4 (w.1.map PyData.int) (by simp)
    have l2 := h4 (w.2.map PyData.int) (by simp)
    rw [List.length_map] at l1 l2
    exact ⟨l1, l2, valid_short v0, valid_short v1, valid_short v2⟩
/-- each part of a plan may be looked at -/
def fineA (m : Int) : Pl → Prop
  | .weigh w l e r => lookW (encW w) ∧ fineA m l ∧ fineA m e ∧ fineA m r
  | .told c => lookW (encC c)
  | .none => True
theorem fineA_P {m : Int} : ∀ {q : Pl} {k : Nat}, fineA m q → hgt q ≤ k → fineP m k (encP q)
  | .none, k, _, _ => fine_atom (by simp [encP, tyD]) (by simp [encP])
  | .told c, k, h, _ => fine_told h
  | .weigh w l e r, 0, _, hk => by simp [hgt] at hk
  | .weigh w l e r, k + 1, h, hk => by
    simp only [hgt] at hk
    refine fine_w h.1 fun p hp => ?_
    simp only [List.mem_cons, List.not_mem_nil, or_false] at hp
    rcases hp with rfl | rfl | rfl
    · exact fineA_P h.2.1 (by omega)
    · exact fineA_P h.2.2.1 (by omega)
    · exact fineA_P h.2.2.2 (by omega)
theorem valid_fineA {m : Nat} (hm : m ≤ 30) : ∀ {q : Pl} {cs : List (List Int)}, (∀ c ∈ cs, CaseOk m c) → ValidP m cs q → fineA m q
  | .none, _, _, _ => trivial
  | .told c, cs, hc, hv => by
    cases (show cs = [c] from hv)
    exact look_enc hm (hc c (by simp))
  | .weigh w l e r, cs, hc, hv => by
    obtain ⟨_, hw, hlk, v0, v1, v2⟩ := hv
    have sub : ∀ d, ∀ c ∈ byW w d cs, CaseOk m c := fun d c h => hc c (by_sub c h)
    exact ⟨hlk, valid_fineA hm (sub _) v0, valid_fineA hm (sub _) v1, valid_fineA hm (sub _) v2⟩
theorem here_fine {m : Nat} (hm : Many m) {cs : List (List Int)} (hc : ∀ c ∈ cs, CaseOk m c) {q : Pl} {t : D} (hq : fineA m q) (hs : shortP q) (h : HereR m cs q t) : fineP m (hgt q + 2) t := by
  have m30 : m ≤ 30 := by rcases hm with rfl | rfl | rfl | rfl <;> decide
  cases h with
  | tell c h e => rw [e]; exact fine_told (look_enc m30 (hc c h))
  | thing c w hcc hw h => exact fine_up (fine_thing hm (fineA_P hq (Nat.le_refl _)) hcc hw t h)
  | other w1 l e r hqe w hw h =>
    subst hqe
    have hk : hgt (.weigh w1 l e r) = max (hgt l) (max (hgt e) (hgt r)) + 1 := by simp only [hgt]; omega
    rw [hk]
    exact fine_le (by omega) (fine_here hm (k := max (hgt l) (max (hgt e) (hgt r))) (fineA_P hq.2.1 (by omega)) (fineA_P hq.2.2.1 (by omega)) (fineA_P hq.2.2.2 (by omega)) hs.1 hs.2.1 hw t h)
  | part w1 l e r hqe c w hcc hw x hx h =>
    have fx := fine_thing hm (fineA_P hq (Nat.le_refl _)) hcc hw x hx
    subst hqe
    have hk : hgt (.weigh w1 l e r) = max (hgt l) (max (hgt e) (hgt r)) + 1 := by simp only [hgt]; omega
    have hl := fineA_P (k := hgt (.weigh w1 l e r) + 1) hq.2.1 (by omega)
    have he := fineA_P (k := hgt (.weigh w1 l e r) + 1) hq.2.2.1 (by omega)
    have hr := fineA_P (k := hgt (.weigh w1 l e r) + 1) hq.2.2.2 (by omega)
    have all : ∀ {a b c : D}, fineP m (hgt (.weigh w1 l e r) + 1) a → fineP m (hgt (.weigh w1 l e r) + 1) b → fineP m (hgt (.weigh w1 l e r) + 1) c → fineP m (hgt (.weigh w1 l e r) + 2) (weighT w1 (.tuple [a, b, c])) := fun ha hb hc => fine_w hq.1 fun p hp => by
      simp only [List.mem_cons, List.not_mem_nil, or_false] at hp
      rcases hp with rfl | rfl | rfl <;> assumption
    rcases h with rfl | rfl | rfl
    · exact all fx he hr
    · exact all hl fx hr
    · exact all hl he fx
theorem ch_fine {m : Nat} (hm : Many m) {cs : List (List Int)} (hc : ∀ c ∈ cs, CaseOk m c) : ∀ {q : Pl} {t : D}, ChR m cs q t → fineA m q → shortP q → fineP m (hgt q + 2) t := by
  intro q t h
  induction h with
  | here h => exact fun hq hs => here_fine hm hc hq hs h
  | @l w1 l e r x h ih =>
    intro hq hs
    have hk : hgt (.weigh w1 l e r) = max (hgt l) (max (hgt e) (hgt r)) + 1 := by simp only [hgt]; omega
    refine fine_w hq.1 fun p hp => ?_
    simp only [List.mem_cons, List.not_mem_nil, or_false] at hp
    rcases hp with rfl | rfl | rfl
    · exact fine_le (by omega) (ih hq.2.1 hs.2.2.1)
    · exact fineA_P hq.2.2.1 (by omega)
    · exact fineA_P hq.2.2.2 (by omega)
  | @e w1 l e r x h ih =>
    intro hq hs
    have hk : hgt (.weigh w1 l e r) = max (hgt l) (max (hgt e) (hgt r)) + 1 := by simp only [hgt]; omega
    refine fine_w hq.1 fun p hp => ?_
    simp only [List.mem_cons, List.not_mem_nil, or_false] at hp
    rcases hp with rfl | rfl | rfl
    · exact fineA_P hq.2.1 (by omega)
    · exact fine_le (by omega) (ih hq.2.2.1 hs.2.2.2.1)
    · exact fineA_P hq.2.2.2 (by omega)
  | @r w1 l e r x h ih =>
    intro hq hs
    have hk : hgt (.weigh w1 l e r) = max (hgt l) (max (hgt e) (hgt r)) + 1 := by simp only [hgt]; omega
    refine fine_w hq.1 fun p hp => ?_
    simp only [List.mem_cons, List.not_mem_nil, or_false] at hp
    rcases hp with rfl | rfl | rfl
    · exact fineA_P hq.2.1 (by omega)
    · exact fineA_P hq.2.2.1 (by omega)
    · exact fine_le (by omega) (ih hq.2.2.2 hs.2.2.2.2)
end W

set_option Elab.async false
set_option linter.all false
set_option maxRecDepth 100000
set_option maxHeartbeats 2000000
namespace W
open PySem PL
/-- may be shown, its leaves short -/
def vis (t : D) : Prop := showD t = true ∧ t.leavesShort 40 = true
theorem vis_tup {xs : List D} : vis (.tuple xs) ↔ ∀ x ∈ xs, vis x := by
  unfold vis
  rw [showD, PyData.leavesShort, showDs_iff, shortAll_iff]
  exact ⟨fun h x hx => ⟨h.1 x hx, h.2 x hx⟩, fun h => ⟨fun x hx => (h x hx).1, fun x hx => (h x hx).2⟩⟩
theorem vis_lst {xs : List D} : vis (.list xs) ↔ ∀ x ∈ xs, vis x := by
  unfold vis
  rw [showD, PyData.leavesShort, showDs_iff, shortAll_iff]
  exact ⟨fun h x hx => ⟨h.1 x hx, h.2 x hx⟩, fun h => ⟨fun x hx => (h x hx).1, fun x hx => (h x hx).2⟩⟩
theorem vis_none : vis .none := ⟨rfl, rfl⟩
theorem vis_bool (b : Bool) : vis (.bool b) := ⟨rfl, rfl⟩
theorem vis_int {i : Int} (h : i.natAbs < 10 ^ 12) : vis (.int i) := ⟨(little_int (n := 0) h).1, (little_int (n := 0) h).2.1⟩
theorem vis_dict : vis (.dict []) := ⟨rfl, rfl⟩
theorem vis_str {s : Str} (h : showD (.str s) = true) (h2 : (PyData.str s).leavesShort 40 = true) : vis (.str s) := ⟨h, h2⟩
theorem vis_sTold : vis (.str sTold) := ⟨by decide +kernel, by decide +kernel⟩
theorem vis_sWeigh : vis (.str sWeigh) := ⟨by decide +kernel, by decide +kernel⟩
theorem vis_sTell : vis (.str (Str.ofString "tell")) := ⟨by decide +kernel, by decide +kernel⟩
theorem vis_sWEIGH : vis (.str (Str.ofString "Weigh")) := ⟨by decide +kernel, by decide +kernel⟩
theorem bk_told : (PyData.str sTold).bulk = 4 := by decide +kernel
theorem bk_weigh : (PyData.str sWeigh).bulk = 5 := by decide +kernel
theorem bk_tell : (PyData.str (Str.ofString "tell")).bulk = 4 := by decide +kernel
theorem bk_WEIGH : (PyData.str (Str.ofString "Weigh")).bulk = 5 := by decide +kernel
theorem dp_str (s : Str) : (PyData.str s).depth = 0 := rfl
theorem vis_ints {l : List Int} (h : ∀ i ∈ l, i.natAbs < 10 ^ 12) : ∀ x ∈ l.map PyData.int, vis x := fun x hx => by
  obtain ⟨i, hi, rfl⟩ := List.mem_map.mp hx
  exact vis_int (h i hi)
theorem bk_ints : ∀ l : List Int, PyData.bulkAll (l.map PyData.int) = l.length
  | [] => rfl
  | i :: l => by rw [List.map_cons, PyData.bulkAll, bk_ints l, List.length_cons]; simp [PyData.bulk]; omega
theorem dp_ints : ∀ l : List Int, PyData.depthAll (l.map PyData.int) = 0
  | [] => rfl
  | i :: l => by rw [List.map_cons, PyData.depthAll, dp_ints l]; simp [PyData.depth]
theorem bk_odd : ∀ l : List Int, PyData.bulkAll (l.map fun x => if x < 0 then PyData.int x else .bool (decide (x = 1))) = l.length
  | [] => rfl
  | i :: l => by
    rw [List.map_cons, PyData.bulkAll, bk_odd l, List.length_cons]
    split <;> simp [PyData.bulk] <;> omega
theorem dp_odd : ∀ l : List Int, PyData.depthAll (l.map fun x => if x < 0 then PyData.int x else .bool (decide (x = 1))) = 0
  | [] => rfl
  | i :: l => by
    rw [List.map_cons, PyData.depthAll, dp_odd l]
    split <;> simp [PyData.depth]
/-- sizes: bulk and depth -/
def sz (n d : Nat) (t : D) : Prop := vis t ∧ t.bulk ≤ n ∧ t.depth ≤ d
theorem sz_c {m : Nat} (hm : m ≤ 5) {c : List Int} (hc : CaseOk m c) : sz 5 1 (encC c) := by
  refine ⟨vis_tup.mpr (vis_ints fun i hi => ?_), ?_, ?_⟩
  · have := hc.2 i hi; omega
  · rw [encC, PyData.bulk, bk_ints, hc.1]; exact hm
  · rw [encC, PyData.depth, dp_ints]; exact Nat.le_refl _
theorem sz_cl {m : Nat} (hm : m ≤ 5) {c : List Int} (hc : CaseOk m c) : sz 5 1 (.list (c.map PyData.int)) := by
  refine ⟨vis_lst.mpr (vis_ints fun i hi => ?_), ?_, ?_⟩
  · have := hc.2 i hi; omega
  · rw [PyData.bulk, bk_ints, hc.1]; exact hm
  · rw [PyData.depth, dp_ints]; exact Nat.le_refl _
theorem sz_o {m : Nat} (hm : m ≤ 5) {c : List Int} (hc : CaseOk m c) : sz 5 1 (oddC c) := by
  refine ⟨vis_tup.mpr fun x hx => ?_, ?_, ?_⟩
  · obtain ⟨i, hi, rfl⟩ := List.mem_map.mp hx
    have := hc.2 i hi
    split
    · exact vis_int (by omega)
    · exact vis_bool _
  · rw [oddC, PyData.bulk, bk_odd, hc.1]; exact hm
  · rw [oddC, PyData.depth, dp_odd]; exact Nat.le_refl _
def SmallW (w : Wg) : Prop := (∀ i ∈ w.1, i.natAbs < 10 ^ 12) ∧ (∀ i ∈ w.2, i.natAbs < 10 ^ 12) ∧ w.1.length ≤ 30 ∧ w.2.length ≤ 30
theorem SmallW.swap {w : Wg} (h : SmallW w) : SmallW (swapW w) := ⟨h.2.1, h.1, h.2.2.2, h.2.2.1⟩
theorem SmallW.dup {w : Wg} (h : SmallW w) : SmallW (w.1, w.1) := ⟨h.1, h.1, h.2.2.1, h.2.2.1⟩
theorem sz_w {w : Wg} (h : SmallW w) : sz 62 2 (encW w) := by
  have h1 := h.2.2.1
  have h2 := h.2.2.2
  refine ⟨vis_tup.mpr fun x hx => ?_, ?_, ?_⟩
  · simp only [List.mem_cons, List.not_mem_nil, or_false] at hx
    rcases hx with rfl | rfl
    · exact vis_tup.mpr (vis_ints h.1)
    · exact vis_tup.mpr (vis_ints h.2.1)
  · simp only [encW, PyData.bulk, PyData.bulkAll, bk_ints]; omega
  · simp only [encW, PyData.depth, PyData.depthAll, dp_ints]; omega
theorem sz_wl {w : Wg} (h : SmallW w) : sz 62 2 (.list [.tuple (w.1.map PyData.int), .tuple (w.2.map PyData.int)]) := by
  have h1 := h.2.2.1
  have h2 := h.2.2.2
  refine ⟨vis_lst.mpr fun x hx => ?_, ?_, ?_⟩
  · simp only [List.mem_cons, List.not_mem_nil, or_false] at hx
    rcases hx with rfl | rfl
    · exact vis_tup.mpr (vis_ints h.1)
    · exact vis_tup.mpr (vis_ints h.2.1)
  · simp only [PyData.bulk, PyData.bulkAll, bk_ints]; omega
  · simp only [PyData.depth, PyData.depthAll, dp_ints]; omega
theorem smallW_of {m : Nat} (hm : m ≤ 30) {w : Wg} (h : WgOk m w) (h1 : w.1.length ≤ 30) (h2 : w.2.length ≤ 30) : SmallW w :=
  ⟨fun i hi => by have := h.1 i hi; omega, fun i hi => by have := h.2.1 i hi; omega, h1, h2⟩
theorem smallW_lead {m : Nat} (hm : Many m) {w : Wg} (hw : w ∈ Ws m) : SmallW w := by
  have m30 : m ≤ 30 := by rcases hm with rfl | rfl | rfl | rfl <;> decide
  obtain ⟨_, _, c, d⟩ := goodWs hm w hw
  exact smallW_of m30 (lead_of hm hw).ok c d
theorem vis2 {a b : D} (ha : vis a) (hb : vis b) : ∀ x ∈ [a, b], vis x := fun x hx => by
  simp only [List.mem_cons, List.not_mem_nil, or_false] at hx
  rcases hx with rfl | rfl <;> assumption
theorem vis3 {a b c : D} (ha : vis a) (hb : vis b) (hc : vis c) : ∀ x ∈ [a, b, c], vis x := fun x hx => by
  simp only [List.mem_cons, List.not_mem_nil, or_false] at hx
  rcases hx with rfl | rfl | rfl <;> assumption
theorem vis4 {a b c d : D} (ha : vis a) (hb : vis b) (hc : vis c) (hd : vis d) : ∀ x ∈ [a, b, c, d], vis x := fun x hx => by
  simp only [List.mem_cons, List.not_mem_nil, or_false] at hx
  rcases hx with rfl | rfl | rfl | rfl <;> assumption
theorem vis1 {a : D} (ha : vis a) : ∀ x ∈ [a], vis x := fun x hx => by
  simp only [List.mem_cons, List.not_mem_nil, or_false] at hx
  rcases hx with rfl
  exact ha
theorem sz_weigh {w x : D} {n d n' d' : Nat} (hw : sz 62 2 w) (hx : sz n d x) (hn : n + 71 ≤ n') (hd : max 2 d + 1 ≤ d') : sz n' d' (.tuple [.str sWeigh, w, x]) := by
  have h1 := hw.2.1
  have h2 := hw.2.2
  have h3 := hx.2.1
  have h4 := hx.2.2
  refine ⟨vis_tup.mpr (vis3 vis_sWeigh hw.1 hx.1), ?_, ?_⟩
  · simp only [PyData.bulk, PyData.bulkAll]
    rw [show (sWeigh.cps.size) = 5 from bk_weigh]; omega
  · simp only [PyData.depth, PyData.depthAll] at h2 h4 ⊢; omega
theorem sz_thing {m : Nat} (hm : Many m) {q : D} {n d : Nat} (hq : sz n d q) {c : List Int} (hc : CaseOk m c) {w : Wg} (hw : w ∈ Ws m) : ∀ t ∈ thingM q c w, sz (3 * n + 200) (d + 4) t := fun t ht => by
  have m5 : m ≤ 5 := by rcases hm with rfl | rfl | rfl | rfl <;> decide
  have zw := sz_w (smallW_lead hm hw)
  have zc := sz_c m5 hc
  have zl := sz_cl m5 hc
  have zo := sz_o m5 hc
  obtain ⟨q1, q2, q3⟩ := hq
  obtain ⟨w1, w2, w3⟩ := zw
  obtain ⟨c1, c2, c3⟩ := zc
  obtain ⟨l1, l2, l3⟩ := zl
  obtain ⟨o1, o2, o3⟩ := zo
  have b1 : sTold.cps.size = 4 := bk_told
  have b2 : sWeigh.cps.size = 5 := bk_weigh
  have b3 : (Str.ofString "tell").cps.size = 4 := bk_tell
  have tl : ∀ {x : D}, vis x → vis (toldT x) := fun h => vis_tup.mpr (vis2 vis_sTold h)
  unfold thingM at ht
  simp only [List.mem_cons, List.not_mem_nil, or_false] at ht
  rcases ht with rfl | rfl | rfl | rfl | rfl | rfl | rfl | rfl | rfl | rfl | rfl | rfl | rfl | rfl | rfl | rfl
  · exact ⟨tl c1, by simp only [toldT, PyData.bulk, PyData.bulkAll]; omega, by simp only [toldT, PyData.depth, PyData.depthAll]; omega⟩
  · exact ⟨vis_none, by simp [PyData.bulk], by simp [PyData.depth]⟩
  · exact ⟨tl o1, by simp only [toldT, PyData.bulk, PyData.bulkAll]; omega, by simp only [toldT, PyData.depth, PyData.depthAll]; omega⟩
  · exact ⟨tl l1, by simp only [toldT, PyData.bulk, PyData.bulkAll] at l2 ⊢; omega, by simp only [toldT, PyData.depth, PyData.depthAll] at l3 ⊢; omega⟩
  · exact ⟨vis_tup.mpr (vis1 vis_sTold), by simp only [PyData.bulk, PyData.bulkAll]; omega, by simp only [PyData.depth, PyData.depthAll]; omega⟩
  · exact ⟨vis_tup.mpr (vis3 vis_sTold c1 c1), by simp only [PyData.bulk, PyData.bulkAll]; omega, by simp only [PyData.depth, PyData.depthAll]; omega⟩
  · exact ⟨vis_tup.mpr (vis3 vis_sWeigh w1 (vis_tup.mpr (vis3 vis_none (tl c1) vis_none))), by simp only [toldT, weighT, PyData.bulk, PyData.bulkAll]; omega, by simp only [toldT, weighT, PyData.depth, PyData.depthAll]; omega⟩
  · exact ⟨vis_tup.mpr (vis3 vis_sWeigh w1 (vis_tup.mpr (vis3 q1 q1 q1))), by simp only [toldT, weighT, PyData.bulk, PyData.bulkAll]; omega, by simp only [toldT, weighT, PyData.depth, PyData.depthAll]; omega⟩
  · exact ⟨vis_tup.mpr (by simp), by simp [PyData.bulk, PyData.bulkAll], by simp [PyData.depth, PyData.depthAll]⟩
  · exact ⟨vis_tup.mpr (vis2 vis_sWeigh w1), by simp only [PyData.bulk, PyData.bulkAll]; omega, by simp only [PyData.depth, PyData.depthAll]; omega⟩
  · exact ⟨vis_sTold, by simp only [PyData.bulk]; omega, by simp [PyData.depth]⟩
  · exact ⟨vis_int (by decide), by simp [PyData.bulk], by simp [PyData.depth]⟩
  · exact ⟨vis_lst.mpr (vis2 vis_sTold c1), by simp only [PyData.bulk, PyData.bulkAll]; omega, by simp only [PyData.depth, PyData.depthAll]; omega⟩
  · exact ⟨vis_tup.mpr (vis2 vis_sTell c1), by simp only [PyData.bulk, PyData.bulkAll]; omega, by simp only [PyData.depth, PyData.depthAll]; omega⟩
  · exact ⟨vis_tup.mpr (vis2 vis_none c1), by simp only [PyData.bulk, PyData.bulkAll]; omega, by simp only [PyData.depth, PyData.depthAll]; omega⟩
  · exact ⟨vis_dict, by simp [PyData.bulk, PyData.bulkKv], by simp [PyData.depth, PyData.depthKv]⟩
theorem sz_here {m : Nat} (hm : Many m) {l e r : D} {n d : Nat} {a b c : Nat} (hl : sz a d l) (he : sz b d e) (hr : sz c d r) {w1 w : Wg} (s1 : SmallW w1) (hw : w ∈ Ws m) (hn : a + b + c ≤ n) : ∀ t ∈ hereM w1 l e r w, sz (n + 90) (d + 4) t := fun t ht => by
  obtain ⟨w1', w2, w3⟩ := sz_w (smallW_lead hm hw)
  obtain ⟨v1, v2, v3⟩ := sz_w s1
  obtain ⟨u1, u2, u3⟩ := sz_w s1.swap
  obtain ⟨x1, x2, x3⟩ := sz_w s1.dup
  obtain ⟨y1, y2, y3⟩ := sz_wl s1
  obtain ⟨l1, l2, l3⟩ := hl
  obtain ⟨e1, e2, e3⟩ := he
  obtain ⟨r1, r2, r3⟩ := hr
  have b2 : sWeigh.cps.size = 5 := bk_weigh
  have b3 : (Str.ofString "Weigh").cps.size = 5 := bk_WEIGH
  have p3 := vis_tup.mpr (vis3 l1 e1 r1)
  have p3' := vis_tup.mpr (vis3 r1 e1 l1)
  unfold hereM at ht
  simp only [List.mem_cons, List.not_mem_nil, or_false] at ht
  rcases ht with rfl | rfl | rfl | rfl | rfl | rfl | rfl | rfl | rfl | rfl | rfl | rfl | rfl | rfl | rfl | rfl | rfl | rfl
  · exact ⟨vis_tup.mpr (vis3 vis_sWeigh u1 p3), by simp only [weighT, PyData.bulk, PyData.bulkAll]; omega, by simp only [weighT, PyData.depth, PyData.depthAll]; omega⟩
  · exact ⟨vis_tup.mpr (vis3 vis_sWeigh w1' p3), by simp only [weighT, PyData.bulk, PyData.bulkAll]; omega, by simp only [weighT, PyData.depth, PyData.depthAll]; omega⟩
  · exact ⟨vis_tup.mpr (vis3 vis_sWeigh y1 p3), by simp only [weighT, PyData.bulk, PyData.bulkAll] at y2 ⊢; omega, by simp only [weighT, PyData.depth, PyData.depthAll] at y3 ⊢; omega⟩
  · exact ⟨vis_tup.mpr (vis3 vis_sWeigh x1 p3), by simp only [weighT, PyData.bulk, PyData.bulkAll]; omega, by simp only [weighT, PyData.depth, PyData.depthAll]; omega⟩
  · exact ⟨vis_tup.mpr (vis3 vis_sWeigh vis_none p3), by simp only [weighT, PyData.bulk, PyData.bulkAll]; omega, by simp only [weighT, PyData.depth, PyData.depthAll]; omega⟩
  · exact ⟨vis_tup.mpr (vis3 vis_sWeigh v1 p3'), by simp only [weighT, PyData.bulk, PyData.bulkAll]; omega, by simp only [weighT, PyData.depth, PyData.depthAll]; omega⟩
  · exact ⟨vis_tup.mpr (vis3 vis_sWeigh v1 (vis_lst.mpr (vis3 l1 e1 r1))), by simp only [weighT, PyData.bulk, PyData.bulkAll]; omega, by simp only [weighT, PyData.depth, PyData.depthAll]; omega⟩
  · exact ⟨vis_tup.mpr (vis3 vis_sWeigh v1 (vis_tup.mpr (vis4 l1 e1 r1 vis_none))), by simp only [weighT, PyData.bulk, PyData.bulkAll]; omega, by simp only [weighT, PyData.depth, PyData.depthAll]; omega⟩
  · exact ⟨vis_tup.mpr (vis3 vis_sWeigh v1 (vis_tup.mpr (vis2 l1 e1))), by simp only [weighT, PyData.bulk, PyData.bulkAll]; omega, by simp only [weighT, PyData.depth, PyData.depthAll]; omega⟩
  · exact ⟨vis_tup.mpr (vis3 vis_sWeigh v1 vis_none), by simp only [weighT, PyData.bulk, PyData.bulkAll]; omega, by simp only [weighT, PyData.depth, PyData.depthAll]; omega⟩
  · exact ⟨vis_tup.mpr (vis3 vis_sWeigh v1 (vis_tup.mpr (by simp))), by simp only [weighT, PyData.bulk, PyData.bulkAll]; omega, by simp only [weighT, PyData.depth, PyData.depthAll]; omega⟩
  · exact ⟨vis_tup.mpr (vis4 vis_sWeigh v1 p3 vis_none), by simp only [weighT, PyData.bulk, PyData.bulkAll]; omega, by simp only [weighT, PyData.depth, PyData.depthAll]; omega⟩
  · exact ⟨vis_tup.mpr (vis2 vis_sWeigh v1), by simp only [weighT, PyData.bulk, PyData.bulkAll]; omega, by simp only [weighT, PyData.depth, PyData.depthAll]; omega⟩
  · exact ⟨vis_lst.mpr (vis3 vis_sWeigh v1 p3), by simp only [weighT, PyData.bulk, PyData.bulkAll]; omega, by simp only [weighT, PyData.depth, PyData.depthAll]; omega⟩
  · exact ⟨vis_tup.mpr (vis3 vis_sWEIGH v1 p3), by simp only [weighT, PyData.bulk, PyData.bulkAll]; omega, by simp only [weighT, PyData.depth, PyData.depthAll]; omega⟩
  · exact ⟨vis_tup.mpr (vis3 (vis_int (by decide)) v1 p3), by simp only [weighT, PyData.bulk, PyData.bulkAll]; omega, by simp only [weighT, PyData.depth, PyData.depthAll]; omega⟩
  · exact ⟨vis_tup.mpr (vis3 p3 v1 vis_sWeigh), by simp only [weighT, PyData.bulk, PyData.bulkAll]; omega, by simp only [weighT, PyData.depth, PyData.depthAll]; omega⟩
  · exact ⟨vis_tup.mpr (vis3 vis_sWeigh u1 p3'), by simp only [weighT, PyData.bulk, PyData.bulkAll]; omega, by simp only [weighT, PyData.depth, PyData.depthAll]; omega⟩
/-- small weighings and cases throughout -/
def smallP (m : Nat) : Pl → Prop
  | .weigh w l e r => SmallW w ∧ smallP m l ∧ smallP m e ∧ smallP m r
  | .told c => CaseOk m c
  | .none => True
theorem valid_small {m : Nat} (hm : m ≤ 30) : ∀ {q : Pl} {cs : List (List Int)}, (∀ c ∈ cs, CaseOk m c) → ValidP m cs q → smallP m q
  | .none, _, _, _ => trivial
  | .told c, cs, hc, hv => by cases (show cs = [c] from hv); exact hc c (by simp)
  | .weigh w l e r, cs, hc, hv => by
    have hs := valid_short hv
    obtain ⟨_, hw, hlk, v0, v1, v2⟩ := hv
    have sub : ∀ d, ∀ c ∈ byW w d cs, CaseOk m c := fun d c h => hc c (by_sub c h)
    exact ⟨smallW_of hm (isW_ok hw hlk) hs.1 hs.2.1, valid_small hm (sub _) v0, valid_small hm (sub _) v1, valid_small hm (sub _) v2⟩
/-- a plan's own size -/
def bulkP : Pl → Nat
  | .none => 0
  | .told _ => 11
  | .weigh _ l e r => 73 + (bulkP l + bulkP e + bulkP r)
theorem sz_plan {m : Nat} (hm : m ≤ 5) : ∀ {q : Pl}, smallP m q → sz (bulkP q) (2 * hgt q + 2) (encP q)
  | .none, _ => ⟨vis_none, by simp [encP, PyData.bulk], by simp [encP, PyData.depth]⟩
  | .told c, h => by
    obtain ⟨c1, c2, c3⟩ := sz_c hm h
    have b1 : sTold.cps.size = 4 := bk_told
    exact ⟨vis_tup.mpr (vis2 vis_sTold c1), by simp only [encP, bulkP, PyData.bulk, PyData.bulkAll]; omega, by simp only [encP, PyData.depth, PyData.depthAll]; omega⟩
  | .weigh w l e r, h => by
    obtain ⟨w1, w2, w3⟩ := sz_w h.1
    obtain ⟨l1, l2, l3⟩ := sz_plan hm h.2.1
    obtain ⟨e1, e2, e3⟩ := sz_plan hm h.2.2.1
    obtain ⟨r1, r2, r3⟩ := sz_plan hm h.2.2.2
    have b2 : sWeigh.cps.size = 5 := bk_weigh
    refine ⟨vis_tup.mpr (vis3 vis_sWeigh w1 (vis_tup.mpr (vis3 l1 e1 r1))), ?_, ?_⟩
    · simp only [encP, bulkP, PyData.bulk, PyData.bulkAll]; omega
    · simp only [encP, hgt, PyData.depth, PyData.depthAll]; omega
theorem bulkP_le {m : Nat} : ∀ {q : Pl} {cs : List (List Int)}, ValidP m cs q → bulkP q ≤ cs.length * (73 * hgt q + 11)
  | .none, _, _ => Nat.zero_le _
  | .told c, cs, hv => by cases (show cs = [c] from hv); simp [bulkP, hgt]
  | .weigh w l e r, cs, hv => by
    obtain ⟨hne, hw, hlk, v0, v1, v2⟩ := hv
    have h1 := bulkP_le v0
    have h2 := bulkP_le v1
    have h3 := bulkP_le v2
    have hb := by_len w cs
    have hp := List.length_pos_iff.mpr hne
    have mono : ∀ (a : Nat) (q : Pl), hgt q ≤ max (hgt l) (max (hgt e) (hgt r)) → a * (73 * hgt q + 11) ≤ a * (73 * max (hgt l) (max (hgt e) (hgt r)) + 11) := fun a q h => Nat.mul_le_mul_left a (by omega)
    have g1 := Nat.le_trans h1 (mono _ l (by omega))
    have g2 := Nat.le_trans h2 (mono _ e (by omega))
    have g3 := Nat.le_trans h3 (mono _ r (by omega))
    have hk : hgt (.weigh w l e r) = max (hgt l) (max (hgt e) (hgt r)) + 1 := by simp only [hgt]; omega
    rw [hk]
    generalize max (hgt l) (max (hgt e) (hgt r)) = h at *
    generalize (byW w (-1) cs).length = a at *
    generalize (byW w 0 cs).length = b at *
    generalize (byW w 1 cs).length = d at *
    have s1 : (a + b + d) * (73 * h + 11) = a * (73 * h + 11) + b * (73 * h + 11) + d * (73 * h + 11) := by rw [Nat.add_mul, Nat.add_mul]
    have s2 : cs.length * (73 * (h + 1) + 11) = cs.length * (73 * h + 11) + cs.length * 73 := by rw [← Nat.mul_add, show 73 * (h + 1) + 11 = 73 * h + 11 + 73 by omega]
    rw [← hb] at s2 hp ⊢
    simp only [bulkP]
    have s3 : (a + b + d) * 73 ≥ 73 := by omega
    omega
theorem here_sz {m : Nat} (hm : Many m) {cs : List (List Int)} (hc : ∀ c ∈ cs, CaseOk m c) {q : Pl} {t : D} (hs : smallP m q) (h : HereR m cs q t) : sz (5 * bulkP q + 300) (2 * hgt q + 8) t := by
  have m5 : m ≤ 5 := by rcases hm with rfl | rfl | rfl | rfl <;> decide
  have up : ∀ {n d n' d' : Nat} {t : D}, sz n d t → n ≤ n' → d ≤ d' → sz n' d' t := fun h a b => ⟨h.1, Nat.le_trans h.2.1 a, Nat.le_trans h.2.2 b⟩
  have sq := sz_plan m5 hs
  cases h with
  | tell c h e =>
    obtain ⟨c1, c2, c3⟩ := sz_c m5 (hc c h)
    have b1 : sTold.cps.size = 4 := bk_told
    rw [e]
    exact ⟨vis_tup.mpr (vis2 vis_sTold c1), by simp only [toldT, PyData.bulk, PyData.bulkAll]; omega, by simp only [toldT, PyData.depth, PyData.depthAll]; omega⟩
  | thing c w hcc hw h => exact up (sz_thing hm sq hcc hw t h) (by omega) (by omega)
  | other w1 l e r hqe w hw h =>
    subst hqe
    have kl := sz_plan m5 hs.2.1
    have ke := sz_plan m5 hs.2.2.1
    have kr := sz_plan m5 hs.2.2.2
    have hk : hgt (.weigh w1 l e r) = max (hgt l) (max (hgt e) (hgt r)) + 1 := by simp only [hgt]; omega
    have hb : bulkP (.weigh w1 l e r) = 73 + (bulkP l + bulkP e + bulkP r) := rfl
    refine up (sz_here hm (n := bulkP l + bulkP e + bulkP r) (d := 2 * hgt (.weigh w1 l e r)) (up kl (Nat.le_refl _) (by omega)) (up ke (Nat.le_refl _) (by omega)) (up kr (Nat.le_refl _) (by omega)) hs.1 hw (Nat.le_refl _) t h) (by omega) (by omega)
  | part w1 l e r hqe c w hcc hw x hx h =>
    have fx := sz_thing hm sq hcc hw x hx
    subst hqe
    have kl := sz_plan m5 hs.2.1
    have ke := sz_plan m5 hs.2.2.1
    have kr := sz_plan m5 hs.2.2.2
    have hk : hgt (.weigh w1 l e r) = max (hgt l) (max (hgt e) (hgt r)) + 1 := by simp only [hgt]; omega
    have hb : bulkP (.weigh w1 l e r) = 73 + (bulkP l + bulkP e + bulkP r) := rfl
    have zw := sz_w hs.1
    have tup : ∀ {a b c : D} {i j k d : Nat}, sz i d a → sz j d b → sz k d c → sz (i + j + k + 3) (d + 1) (.tuple [a, b, c]) := fun ha hb hc => by
      obtain ⟨a1, a2, a3⟩ := ha
      obtain ⟨b1, b2, b3⟩ := hb
      obtain ⟨c1, c2, c3⟩ := hc
      exact ⟨vis_tup.mpr (vis3 a1 b1 c1), by simp only [PyData.bulk, PyData.bulkAll]; omega, by simp only [PyData.depth, PyData.depthAll]; omega⟩
    have U : ∀ {n : Nat} {t : D} {q : Pl}, hgt q < hgt (.weigh w1 l e r) → sz n (2 * hgt q + 2) t → sz n (2 * hgt (.weigh w1 l e r) + 2 + 4) t := fun h z => up z (Nat.le_refl _) (by omega)
    rcases h with rfl | rfl | rfl
    · exact sz_weigh zw (tup fx (U (by omega) ke) (U (by omega) kr)) (by omega) (by omega)
    · exact sz_weigh zw (tup (U (by omega) kl) fx (U (by omega) kr)) (by omega) (by omega)
    · exact sz_weigh zw (tup (U (by omega) kl) (U (by omega) ke) fx) (by omega) (by omega)
theorem ch_sz {m : Nat} (hm : Many m) {cs : List (List Int)} (hc : ∀ c ∈ cs, CaseOk m c) : ∀ {q : Pl} {t : D}, ChR m cs q t → smallP m q → sz (5 * bulkP q + 300) (2 * hgt q + 8) t := by
  intro q t h
  have m5 : m ≤ 5 := by rcases hm with rfl | rfl | rfl | rfl <;> decide
  have up : ∀ {n d n' d' : Nat} {t : D}, sz n d t → n ≤ n' → d ≤ d' → sz n' d' t := fun h a b => ⟨h.1, Nat.le_trans h.2.1 a, Nat.le_trans h.2.2 b⟩
  have tup : ∀ {a b c : D} {i j k d : Nat}, sz i d a → sz j d b → sz k d c → sz (i + j + k + 3) (d + 1) (.tuple [a, b, c]) := fun ha hb hc => by
    obtain ⟨a1, a2, a3⟩ := ha
    obtain ⟨b1, b2, b3⟩ := hb
    obtain ⟨c1, c2, c3⟩ := hc
    exact ⟨vis_tup.mpr (vis3 a1 b1 c1), by simp only [PyData.bulk, PyData.bulkAll]; omega, by simp only [PyData.depth, PyData.depthAll]; omega⟩
  induction h with
  | here h => exact fun hs => here_sz hm hc hs h
  | @l w1 l e r x h ih =>
    intro hs
    have ke := sz_plan m5 hs.2.2.1
    have kr := sz_plan m5 hs.2.2.2
    have hk : hgt (.weigh w1 l e r) = max (hgt l) (max (hgt e) (hgt r)) + 1 := by simp only [hgt]; omega
    have hb : bulkP (.weigh w1 l e r) = 73 + (bulkP l + bulkP e + bulkP r) := rfl
    exact sz_weigh (sz_w hs.1) (tup (d := 2 * hgt (.weigh w1 l e r) + 6) (up (ih hs.2.1) (Nat.le_refl _) (by omega)) (up ke (Nat.le_refl _) (by omega)) (up kr (Nat.le_refl _) (by omega))) (by omega) (by omega)
  | @e w1 l e r x h ih =>
    intro hs
    have ke := sz_plan m5 hs.2.1
    have kr := sz_plan m5 hs.2.2.2
    have hk : hgt (.weigh w1 l e r) = max (hgt l) (max (hgt e) (hgt r)) + 1 := by simp only [hgt]; omega
    have hb : bulkP (.weigh w1 l e r) = 73 + (bulkP l + bulkP e + bulkP r) := rfl
    exact sz_weigh (sz_w hs.1) (tup (d := 2 * hgt (.weigh w1 l e r) + 6) (up ke (Nat.le_refl _) (by omega)) (up (ih hs.2.2.1) (Nat.le_refl _) (by omega)) (up kr (Nat.le_refl _) (by omega))) (by omega) (by omega)
  | @r w1 l e r x h ih =>
    intro hs
    have ke := sz_plan m5 hs.2.1
    have kr := sz_plan m5 hs.2.2.1
    have hk : hgt (.weigh w1 l e r) = max (hgt l) (max (hgt e) (hgt r)) + 1 := by simp only [hgt]; omega
    have hb : bulkP (.weigh w1 l e r) = 73 + (bulkP l + bulkP e + bulkP r) := rfl
    exact sz_weigh (sz_w hs.1) (tup (d := 2 * hgt (.weigh w1 l e r) + 6) (up ke (Nat.le_refl _) (by omega)) (up kr (Nat.le_refl _) (by omega)) (up (ih hs.2.2.2) (Nat.le_refl _) (by omega))) (by omega) (by omega)
theorem sz_str {t : D} {n d : Nat} (h : sz n d t) (hn : n ≤ 90000) (hd : d ≤ 60) : dStr [t] = .ok (.str (strOfD t)) := by
  have h1 := PyData.shown_le_bulk 40 (by decide) t h.1.2
  have h2 := h.2.1
  have h3 := h.2.2
  simp only [dStr]
  rw [h.1.1, decide_eq_true (show t.depth ≤ 60 by omega), decide_eq_true (show t.shown.length ≤ 4000000 by omega)]
  rfl
end W

set_option Elab.async false
set_option linter.all false
set_option maxRecDepth 100000
set_option maxHeartbeats 2000000
namespace W
open PySem PL
theorem cutD_drop1 (a : D) (xs : List D) : cutD (a :: xs) (some 1) none = xs := by
  have h1 : HT.sIx (a :: xs).length 0 (some 1) = 1 := by
    have := HT.sIx_nat (a :: xs).length 0 1
    rw [List.length_cons] at this ⊢
    rw [show ((1 : Nat) : Int) = 1 from rfl] at this
    rw [this]
    omega
  unfold cutD
  rw [h1]
  have h2 : HT.sIx (a :: xs).length (a :: xs).length none = (a :: xs).length := rfl
  rw [h2]
  simp
theorem is_plan_eq {m : Nat} (hm : Many m) {cs : List (List Int)} (h : CasesOk m cs) {k : Nat} (hk : 2 * k + 1 ≤ 40) {t : D} (ht : fineP m k t) : F_is_plan [.int m, .list (cs.map encC), t] = .ok (.bool (planB m k cs t)) := by
  have m25 : 2 ≤ m ∧ m ≤ 5 := by rcases hm with rfl | rfl | rfl | rfl <;> decide
  have le := h.le
  unfold F_is_plan g_is_plan
  simp only [dIx_t0, dIx_t1, dIx_l0, dIx_l1, toItems, itemsOf, runF, runL, startE, endF, endL, R.bind_ok, R.bind_exc, R.bind_stuck, gSeq, gIf, gSet, gOwn, gRet, gRetL, gRetO, gDrop, gTgt, gT, gsC, gsN, gN, gFor, gApp, gExt, gFrz, gNil, gExc, eVar, eC, e1, e2, eA, aNil, aCons, eTup, eLst, eCall, lCall, listR, eChain, tV, tAndD, tOrD, tNotD, eAnd, eOr, eNot, eIf, eL, lDisp, lList, lRep, oNone, oSome, eSl, iSeq, iRng1, iRng2, iZipD, iEnumD, iRevD, lListRange, lLc, eSorted, eSortSet, eLenSet, eBor, tBor, tYesD, noE, toB, dCmp, dSub, dNeg, dInt, dLen, dIs, dIsNot, List.map_cons, List.map_nil, List.length_cons, List.length_nil, Nat.reduceAdd, Nat.reduceSub, Nat.reduceLeDiff, List.replicate, List.cons_append, List.nil_append, List.append_nil, List.getElem?_cons_zero, List.getElem?_cons_succ, List.set_cons_zero, List.set_cons_succ, if_true, if_false, reduceIte, Bool.not_true, Bool.not_false, Bool.false_eq_true, reduceCtorEq, F_need_cases_ok m25 h, F_is_plan_for_eq k 40 t hk ht cs h.ok (by omega)]
theorem odd_plan {m : Nat} (hm : Many m) {cs : List (List Int)} (h : CasesOk m cs) {x : D} (hx : x ∈ [.none, .tuple [], .int 5, .str sTold]) : F_is_plan [.int m, .list (cs.map encC), x] = .ok (.bool false) := by
  have f : fineP m 0 x ∧ planB m 0 cs x = false := by
    simp only [List.mem_cons, List.not_mem_nil, or_false] at hx
    rcases hx with rfl | rfl | rfl | rfl
    · exact ⟨fine_atom (by simp [tyD]) (by simp), rfl⟩
    · exact ⟨fine_nopair (by simp) (by simp), rfl⟩
    · exact ⟨fine_atom (by simp [tyD]) (by simp), rfl⟩
    · exact ⟨fine_atom (by simp [tyD]) (by simp), rfl⟩
  rw [is_plan_eq hm h (by decide) f.1, f.2]
theorem hgt_depth : ∀ q : Pl, 2 * hgt q ≤ (encP q).depth
  | .none => by simp [hgt]
  | .told c => by simp [hgt]
  | .weigh w l e r => by
    have h1 := hgt_depth l
    have h2 := hgt_depth e
    have h3 := hgt_depth r
    simp only [hgt, encP, PyData.depth, PyData.depthAll]
    omega
theorem cases_tail {m : Nat} {a : List Int} {cs : List (List Int)} (h : CasesOk m (a :: cs)) (hn : cs ≠ []) : CasesOk m cs := ⟨fun c hc => h.ok c (List.mem_cons_of_mem _ hc), (List.nodup_cons.mp h.nd).2, List.length_pos_iff.mpr hn, by have := h.le; simp at this; omega⟩
theorem listE_sh (cs : List (List Int)) : sh 2 (.list (cs.map encC)) := sh_list (n := 1) fun x hx => by
  obtain ⟨c, _, rfl⟩ := List.mem_map.mp hx
  exact encC_sh c
theorem listE_ne (cs : List (List Int)) : dNe (.list (cs.map encC)) (.list (cs.map encC)) = .ok (.bool false) := by
  rw [dNe_sh (listE_sh cs) (listE_sh cs), SeqAt.eqv_refl _ (listE_sh cs).1]
  rfl
theorem dNe_word (x : Str) (h : PyData.strOk x = true) : dNe (.str x) (.str x) = .ok (.bool false) := by
  rw [dNe_sh (n := 0) (m := 0) (sh_str (by rw [PyData.canLay0]; exact h)) (sh_str (by rw [PyData.canLay0]; exact h))]
  simp [PyData.eqv]
theorem law_turn {m : Nat} (hm : Many m) {cs as : List (List Int)} (h : CasesOk m cs) (ha : CasesOk m as) {q : Pl} (hv : ValidP m cs q) (hq : hgt q ≤ 18) {t : D} {k : Nat} (hk : 2 * k + 1 ≤ 40) (ht : fineP m k t) (hs : sz 90000 60 t) (wy tn : Int) (s0 s3 s12 : PL.Slot noObj) :
    g_law_L1 [s0, .val (.int m), .val (.list (cs.map encC)), s3, .val (encP q), .val t, .val (.int wy), .val (.list (as.map encC)), .val (.bool (planB m k as t)), .val (.str (strOfD t)), .val (.list (as.map encC)), .val (.int tn), s12] =
      .ok (.nx, [s0, .val (.int m), .val (.list (cs.map encC)), s3, .val (encP q), .val t, .val (.int wy), .val (.list (as.map encC)), .val (.bool (planB m k as t)), .val (.str (strOfD t)), .val (.list (as.map encC)), .val (.int tn), .val (.bool (planB m k as t))]) := by
  have m30 : m ≤ 30 := by rcases hm with rfl | rfl | rfl | rfl <;> decide
  have cne : cs ≠ [] := List.length_pos_iff.mp h.pos
  have f1 := is_plan_eq hm ha hk ht
  have f2 := is_plan_eq hm h (k := 18) (by decide) (valid_fine m30 q 18 cs h.ok hq hv)
  rw [valid_pass q 18 cs h.ok cne hq hv] at f2
  have f3 := odd_plan hm ha (x := pick [.none, .tuple [], .int 5, .str sTold] (wy / 16) 4) (pick_mem rfl (by decide))
  have n1 : ∀ b : Bool, dNe (.bool b) (.bool b) = .ok (.bool false) := fun b => by cases b <;> rfl
  have n2 := dNe_word (strOfD t) (okS_strOfD hs.1.1)
  have n3 := sz_str hs (by decide) (by decide)
  have i1 : ∀ b : Bool, dIsi "bool" (.bool b) = .ok (.bool true) := fun b => rfl
  have l1 : ∀ xs : List D, dList [.list xs] = .ok (.list xs) := fun _ => rfl
  unfold g_law_L1
  simp only [dIx_pick, dMod, dDiv, dList, dTuple, dRev, dSl, Int.reduceLT, Int.reduceLE, Int.reduceEq, Int.reduceSub, Int.reduceAdd, and_self, true_and, and_true, and_false, false_and, Int.cast_ofNat_Int, decide_true, decide_false, Bool.true_and, Bool.false_and, Bool.and_true, Bool.and_false, dIx_t0, dIx_t1, dIx_l0, dIx_l1, toItems, itemsOf, runF, runL, startE, endF, endL, R.bind_ok, R.bind_exc, R.bind_stuck, gSeq, gIf, gSet, gOwn, gRet, gRetL, gRetO, gDrop, gTgt, gT, gsC, gsN, gN, gFor, gApp, gExt, gFrz, gNil, gExc, eVar, eC, e1, e2, eA, aNil, aCons, eTup, eLst, eCall, lCall, listR, eChain, tV, tAndD, tOrD, tNotD, eAnd, eOr, eNot, eIf, eL, lDisp, lList, lRep, oNone, oSome, eSl, iSeq, iRng1, iRng2, iZipD, iEnumD, iRevD, lListRange, lLc, eSorted, eSortSet, eLenSet, eBor, tBor, tYesD, noE, toB, dCmp, dSub, dNeg, dInt, dLen, dIs, dIsNot, List.map_cons, List.map_nil, List.length_cons, List.length_nil, Nat.reduceAdd, Nat.reduceSub, Nat.reduceLeDiff, List.replicate, List.cons_append, List.nil_append, List.append_nil, List.getElem?_cons_zero, List.getElem?_cons_succ, List.set_cons_zero, List.set_cons_succ, if_true, if_false, reduceIte, Bool.not_true, Bool.not_false, Bool.false_eq_true, reduceCtorEq, f1, i1, n1, listE_ne, n3, n2, l1, f2, f3]
theorem law_true (ns : List Int) : F_law [scriptD ns] = .ok (.bool true) := by
  obtain ⟨m, cs0, p1, hm, _, hcs0⟩ := puzzle_ok ns 3 5 (by decide) (by decide)
  have m30 : m ≤ 30 := by rcases hm with rfl | rfl | rfl | rfl <;> decide
  obtain ⟨cs, p2, hcs, hap⟩ := apart_ok hm hcs0
  have cne : cs ≠ [] := List.length_pos_iff.mp hcs.pos
  have cle := hcs.le
  obtain ⟨q, p3, hv, hq⟩ := planned_ok hm 20 cs (mixI ns 0 % 1000003) 2 hcs.ok cne hap (by omega) (by omega)
  simp only [Int.cast_ofNat_Int] at p3
  have hb := bulkP_le hv
  have hb2 : cs.length * (73 * hgt q + 11) ≤ 12 * (73 * 14 + 11) := Nat.mul_le_mul cle (by omega)
  have hsm := valid_small m30 hcs.ok hv
  have hfa := valid_fineA m30 hcs.ok hv
  have hsh := valid_short hv
  have m5 : m ≤ 5 := by rcases hm with rfl | rfl | rfl | rfl <;> decide
  have up : ∀ {n d n' d' : Nat} {t : D}, sz n d t → n ≤ n' → d ≤ d' → sz n' d' t := fun h a b => ⟨h.1, Nat.le_trans h.2.1 a, Nat.le_trans h.2.2 b⟩
  -- the thing
  obtain ⟨t, et, ft, st⟩ : ∃ t, ((gIf (tV (e2 dGt (e2 dMod (eVar 6) (eC (.int 4))) (eC (.int 0)))) (gSet 5 (eCall 4 (F__law_changed 40) (aCons (eVar 4) (aCons (eVar 3) (aCons (eVar 2) (aCons (eCall 2 F__law_mixed (aCons (eVar 0) (aCons (eC (.int 2)) aNil))) aNil)))))) gNil : GS noObj)
      [.val (scriptD ns), .val (.int m), .val (.list (cs.map encC)), .val (.list ((Ws m).map encW)), .val (encP q), .val (encP q), .val (.int (cellI ns 1)), .no, .no, .no, .no, .no, .no] =
      .ok (.nx, [.val (scriptD ns), .val (.int m), .val (.list (cs.map encC)), .val (.list ((Ws m).map encW)), .val (encP q), .val t, .val (.int (cellI ns 1)), .no, .no, .no, .no, .no, .no])) ∧ fineP m 18 t ∧ sz 90000 40 t := by
    by_cases h4 : (0 : Int) < cellI ns 1 % 4
    · obtain ⟨t, e, hc⟩ := changed_eq hm hcs.ok cne (by omega) q 40 cs (mixI ns 2) (by omega) (by omega) cne (by omega) (fun _ h => h) hv
      refine ⟨t, by simp only [dIx_pick, dMod, dDiv, dList, dTuple, dRev, dSl, Int.reduceLT, Int.reduceLE, Int.reduceEq, Int.reduceSub, Int.reduceAdd, and_self, true_and, and_true, and_false, false_and, Int.cast_ofNat_Int, decide_true, decide_false, Bool.true_and, Bool.false_and, Bool.and_true, Bool.and_false, dIx_t0, dIx_t1, dIx_l0, dIx_l1, toItems, itemsOf, runF, runL, startE, endF, endL, R.bind_ok, R.bind_exc, R.bind_stuck, gSeq, gIf, gSet, gOwn, gRet, gRetL, gRetO, gDrop, gTgt, gT, gsC, gsN, gN, gFor, gApp, gExt, gFrz, gNil, gExc, eVar, eC, e1, e2, eA, aNil, aCons, eTup, eLst, eCall, lCall, listR, eChain, tV, tAndD, tOrD, tNotD, eAnd, eOr, eNot, eIf, eL, lDisp, lList, lRep, oNone, oSome, eSl, iSeq, iRng1, iRng2, iZipD, iEnumD, iRevD, lListRange, lLc, eSorted, eSortSet, eLenSet, eBor, tBor, tYesD, noE, toB, dCmp, dSub, dNeg, dInt, dLen, dIs, dIsNot, List.map_cons, List.map_nil, List.length_cons, List.length_nil, Nat.reduceAdd, Nat.reduceSub, Nat.reduceLeDiff, List.replicate, List.cons_append, List.nil_append, List.append_nil, List.getElem?_cons_zero, List.getElem?_cons_succ, List.set_cons_zero, List.set_cons_succ, if_true, if_false, reduceIte, Bool.not_true, Bool.not_false, Bool.false_eq_true, reduceCtorEq, decide_eq_true h4, mixed_eq ns 2 (by decide), e], fine_le (by omega) (ch_fine hm hcs.ok hc hfa hsh), up (ch_sz hm hcs.ok hc hsm) (by omega) (by omega)⟩
    · exact ⟨encP q, by simp only [dIx_pick, dMod, dDiv, dList, dTuple, dRev, dSl, Int.reduceLT, Int.reduceLE, Int.reduceEq, Int.reduceSub, Int.reduceAdd, and_self, true_and, and_true, and_false, false_and, Int.cast_ofNat_Int, decide_true, decide_false, Bool.true_and, Bool.false_and, Bool.and_true, Bool.and_false, dIx_t0, dIx_t1, dIx_l0, dIx_l1, toItems, itemsOf, runF, runL, startE, endF, endL, R.bind_ok, R.bind_exc, R.bind_stuck, gSeq, gIf, gSet, gOwn, gRet, gRetL, gRetO, gDrop, gTgt, gT, gsC, gsN, gN, gFor, gApp, gExt, gFrz, gNil, gExc, eVar, eC, e1, e2, eA, aNil, aCons, eTup, eLst, eCall, lCall, listR, eChain, tV, tAndD, tOrD, tNotD, eAnd, eOr, eNot, eIf, eL, lDisp, lList, lRep, oNone, oSome, eSl, iSeq, iRng1, iRng2, iZipD, iEnumD, iRevD, lListRange, lLc, eSorted, eSortSet, eLenSet, eBor, tBor, tYesD, noE, toB, dCmp, dSub, dNeg, dInt, dLen, dIs, dIsNot, List.map_cons, List.map_nil, List.length_cons, List.length_nil, Nat.reduceAdd, Nat.reduceSub, Nat.reduceLeDiff, List.replicate, List.cons_append, List.nil_append, List.append_nil, List.getElem?_cons_zero, List.getElem?_cons_succ, List.set_cons_zero, List.set_cons_succ, if_true, if_false, reduceIte, Bool.not_true, Bool.not_false, Bool.false_eq_true, reduceCtorEq, decide_eq_false h4], fine_le (by omega) (fineA_P hfa (Nat.le_refl _)), up (sz_plan m5 hsm) (by omega) (by omega)⟩
  -- of which cases it is asked
  obtain ⟨as, ea, has⟩ : ∃ as, ((eIf (tAndD (tV (e2 dEq (e2 dMod (eVar 6) (eC (.int 16))) (eC (.int 4)))) (tV (e2 dGt (eA dLen (aCons (eVar 2) aNil)) (eC (.int 1))))) (eSl (eVar 2) (oSome (eC (.int 1))) oNone) (eVar 2) : Env noObj → PL.R D)
      [.val (scriptD ns), .val (.int m), .val (.list (cs.map encC)), .val (.list ((Ws m).map encW)), .val (encP q), .val t, .val (.int (cellI ns 1)), .no, .no, .no, .no, .no, .no]) = .ok (.list (as.map encC)) ∧ CasesOk m as := by
    by_cases h1 : cellI ns 1 % 16 = 4
    · match cs, cne, hcs with
      | [c], _, hcs => exact ⟨[c], by simp only [dIx_pick, dMod, dDiv, dList, dTuple, dRev, dSl, Int.reduceLT, Int.reduceLE, Int.reduceEq, Int.reduceSub, Int.reduceAdd, and_self, true_and, and_true, and_false, false_and, Int.cast_ofNat_Int, decide_true, decide_false, Bool.true_and, Bool.false_and, Bool.and_true, Bool.and_false, dIx_t0, dIx_t1, dIx_l0, dIx_l1, toItems, itemsOf, runF, runL, startE, endF, endL, R.bind_ok, R.bind_exc, R.bind_stuck, gSeq, gIf, gSet, gOwn, gRet, gRetL, gRetO, gDrop, gTgt, gT, gsC, gsN, gN, gFor, gApp, gExt, gFrz, gNil, gExc, eVar, eC, e1, e2, eA, aNil, aCons, eTup, eLst, eCall, lCall, listR, eChain, tV, tAndD, tOrD, tNotD, eAnd, eOr, eNot, eIf, eL, lDisp, lList, lRep, oNone, oSome, eSl, iSeq, iRng1, iRng2, iZipD, iEnumD, iRevD, lListRange, lLc, eSorted, eSortSet, eLenSet, eBor, tBor, tYesD, noE, toB, dCmp, dSub, dNeg, dInt, dLen, dIs, dIsNot, List.map_cons, List.map_nil, List.length_cons, List.length_nil, Nat.reduceAdd, Nat.reduceSub, Nat.reduceLeDiff, List.replicate, List.cons_append, List.nil_append, List.append_nil, List.getElem?_cons_zero, List.getElem?_cons_succ, List.set_cons_zero, List.set_cons_succ, if_true, if_false, reduceIte, Bool.not_true, Bool.not_false, Bool.false_eq_true, reduceCtorEq, dEq_int, decide_eq_true h1], hcs⟩
      | a :: b :: r, _, hcs =>
        refine ⟨b :: r, ?_, cases_tail hcs (by simp)⟩
        have l1 : ((1 : Int) < ((r.length + 1 + 1 : Nat) : Int)) := by omega
        have l2 : (((a :: b :: r).map encC).length : Int) = ((r.length + 1 + 1 : Nat) : Int) := by simp
        have cd : cutD ((a :: b :: r).map encC) (some 1) none = (b :: r).map encC := by rw [List.map_cons, cutD_drop1]
        generalize hX : (a :: b :: r).map encC = X at l2 cd ⊢
        simp only [dIx_pick, dMod, dDiv, dList, dTuple, dRev, dSl, Int.reduceLT, Int.reduceLE, Int.reduceEq, Int.reduceSub, Int.reduceAdd, and_self, true_and, and_true, and_false, false_and, Int.cast_ofNat_Int, decide_true, decide_false, Bool.true_and, Bool.false_and, Bool.and_true, Bool.and_false, dIx_t0, dIx_t1, dIx_l0, dIx_l1, toItems, itemsOf, runF, runL, startE, endF, endL, R.bind_ok, R.bind_exc, R.bind_stuck, gSeq, gIf, gSet, gOwn, gRet, gRetL, gRetO, gDrop, gTgt, gT, gsC, gsN, gN, gFor, gApp, gExt, gFrz, gNil, gExc, eVar, eC, e1, e2, eA, aNil, aCons, eTup, eLst, eCall, lCall, listR, eChain, tV, tAndD, tOrD, tNotD, eAnd, eOr, eNot, eIf, eL, lDisp, lList, lRep, oNone, oSome, eSl, iSeq, iRng1, iRng2, iZipD, iEnumD, iRevD, lListRange, lLc, eSorted, eSortSet, eLenSet, eBor, tBor, tYesD, noE, toB, dCmp, dSub, dNeg, dInt, dLen, dIs, dIsNot, List.map_cons, List.map_nil, List.length_cons, List.length_nil, Nat.reduceAdd, Nat.reduceSub, Nat.reduceLeDiff, List.replicate, List.cons_append, List.nil_append, List.append_nil, List.getElem?_cons_zero, List.getElem?_cons_succ, List.set_cons_zero, List.set_cons_succ, if_true, if_false, reduceIte, Bool.not_true, Bool.not_false, Bool.false_eq_true, reduceCtorEq, dEq_int, decide_eq_true h1, l2, decide_eq_true l1, cd]
    · exact ⟨cs, by simp only [dIx_pick, dMod, dDiv, dList, dTuple, dRev, dSl, Int.reduceLT, Int.reduceLE, Int.reduceEq, Int.reduceSub, Int.reduceAdd, and_self, true_and, and_true, and_false, false_and, Int.cast_ofNat_Int, decide_true, decide_false, Bool.true_and, Bool.false_and, Bool.and_true, Bool.and_false, dIx_t0, dIx_t1, dIx_l0, dIx_l1, toItems, itemsOf, runF, runL, startE, endF, endL, R.bind_ok, R.bind_exc, R.bind_stuck, gSeq, gIf, gSet, gOwn, gRet, gRetL, gRetO, gDrop, gTgt, gT, gsC, gsN, gN, gFor, gApp, gExt, gFrz, gNil, gExc, eVar, eC, e1, e2, eA, aNil, aCons, eTup, eLst, eCall, lCall, listR, eChain, tV, tAndD, tOrD, tNotD, eAnd, eOr, eNot, eIf, eL, lDisp, lList, lRep, oNone, oSome, eSl, iSeq, iRng1, iRng2, iZipD, iEnumD, iRevD, lListRange, lLc, eSorted, eSortSet, eLenSet, eBor, tBor, tYesD, noE, toB, dCmp, dSub, dNeg, dInt, dLen, dIs, dIsNot, List.map_cons, List.map_nil, List.length_cons, List.length_nil, Nat.reduceAdd, Nat.reduceSub, Nat.reduceLeDiff, List.replicate, List.cons_append, List.nil_append, List.append_nil, List.getElem?_cons_zero, List.getElem?_cons_succ, List.set_cons_zero, List.set_cons_succ, if_true, if_false, reduceIte, Bool.not_true, Bool.not_false, Bool.false_eq_true, reduceCtorEq, dEq_int, decide_eq_false h1], hcs⟩
  have ane : as ≠ [] := List.length_pos_iff.mp has.pos
  have ale := has.le
  have due := F__law_is_plan_eq 18 40 t (by decide) ft as has.ok (by omega)
  have ks := sz_str st (by decide) (by decide)
  have l1 : ∀ xs : List D, dList [.list xs] = .ok (.list xs) := fun _ => rfl
  have r2 : rangeD 0 2 = [.int 0, .int 1] := rfl
  have tn := fun tn s0 s3 s12 => law_turn hm hcs has hv (by omega) (k := 18) (by decide) ft (up st (by decide) (by decide)) (cellI ns 1) tn s0 s3 s12
  have g1 := goes_eq hcs.ok cne (by omega) (by omega : hgt q ≤ 39) hv
  have g2 : planB m 18 as t = true → F__law_goes [t, .list (as.map encC)] = .ok (.bool true) := fun hb => by
    obtain ⟨q', rfl, hv'⟩ := planB_valid 18 t ft as has.ok ane hb
    have hd := hgt_depth q'
    have := st.2.2
    exact goes_eq has.ok ane (by omega) (by omega : hgt q' ≤ 39) hv'
  unfold F_law g_law
  generalize hG1 : (gIf (tV (e2 dGt (e2 dMod (eVar 6) (eC (.int 4))) (eC (.int 0)))) (gSet 5 (eCall 4 (F__law_changed 40) (aCons (eVar 4) (aCons (eVar 3) (aCons (eVar 2) (aCons (eCall 2 F__law_mixed (aCons (eVar 0) (aCons (eC (.int 2)) aNil))) aNil)))))) gNil : GS noObj) = G1 at et ⊢
  generalize hG2 : (eIf (tAndD (tV (e2 dEq (e2 dMod (eVar 6) (eC (.int 16))) (eC (.int 4)))) (tV (e2 dGt (eA dLen (aCons (eVar 2) aNil)) (eC (.int 1))))) (eSl (eVar 2) (oSome (eC (.int 1))) oNone) (eVar 2) : Env noObj → PL.R D) = G2 at ea ⊢
  simp only [dIx_pick, dMod, dDiv, dList, dTuple, dRev, dSl, Int.reduceLT, Int.reduceLE, Int.reduceEq, Int.reduceSub, Int.reduceAdd, and_self, true_and, and_true, and_false, false_and, Int.cast_ofNat_Int, decide_true, decide_false, Bool.true_and, Bool.false_and, Bool.and_true, Bool.and_false, dIx_t0, dIx_t1, dIx_l0, dIx_l1, toItems, itemsOf, runF, runL, startE, endF, endL, R.bind_ok, R.bind_exc, R.bind_stuck, gSeq, gIf, gSet, gOwn, gRet, gRetL, gRetO, gDrop, gTgt, gT, gsC, gsN, gN, gFor, gApp, gExt, gFrz, gNil, gExc, eVar, eC, e1, e2, eA, aNil, aCons, eTup, eLst, eCall, lCall, listR, eChain, tV, tAndD, tOrD, tNotD, eAnd, eOr, eNot, eIf, eL, lDisp, lList, lRep, oNone, oSome, eSl, iSeq, iRng1, iRng2, iZipD, iEnumD, iRevD, lListRange, lLc, eSorted, eSortSet, eLenSet, eBor, tBor, tYesD, noE, toB, dCmp, dSub, dNeg, dInt, dLen, dIs, dIsNot, List.map_cons, List.map_nil, List.length_cons, List.length_nil, Nat.reduceAdd, Nat.reduceSub, Nat.reduceLeDiff, List.replicate, List.cons_append, List.nil_append, List.append_nil, List.getElem?_cons_zero, List.getElem?_cons_succ, List.set_cons_zero, List.set_cons_succ, if_true, if_false, reduceIte, Bool.not_true, Bool.not_false, Bool.false_eq_true, reduceCtorEq, p1, pans_eq hm, p2, mixed_eq ns 0 (by decide), p3, cell_eq ns 1 (by decide), et, ea, due, ks, l1, r2, loopF, tn]
  by_cases hb : planB m 18 as t = true
  · simp only [dIx_pick, dMod, dDiv, dList, dTuple, dRev, dSl, Int.reduceLT, Int.reduceLE, Int.reduceEq, Int.reduceSub, Int.reduceAdd, and_self, true_and, and_true, and_false, false_and, Int.cast_ofNat_Int, decide_true, decide_false, Bool.true_and, Bool.false_and, Bool.and_true, Bool.and_false, dIx_t0, dIx_t1, dIx_l0, dIx_l1, toItems, itemsOf, runF, runL, startE, endF, endL, R.bind_ok, R.bind_exc, R.bind_stuck, gSeq, gIf, gSet, gOwn, gRet, gRetL, gRetO, gDrop, gTgt, gT, gsC, gsN, gN, gFor, gApp, gExt, gFrz, gNil, gExc, eVar, eC, e1, e2, eA, aNil, aCons, eTup, eLst, eCall, lCall, listR, eChain, tV, tAndD, tOrD, tNotD, eAnd, eOr, eNot, eIf, eL, lDisp, lList, lRep, oNone, oSome, eSl, iSeq, iRng1, iRng2, iZipD, iEnumD, iRevD, lListRange, lLc, eSorted, eSortSet, eLenSet, eBor, tBor, tYesD, noE, toB, dCmp, dSub, dNeg, dInt, dLen, dIs, dIsNot, List.map_cons, List.map_nil, List.length_cons, List.length_nil, Nat.reduceAdd, Nat.reduceSub, Nat.reduceLeDiff, List.replicate, List.cons_append, List.nil_append, List.append_nil, List.getElem?_cons_zero, List.getElem?_cons_succ, List.set_cons_zero, List.set_cons_succ, if_true, if_false, reduceIte, Bool.not_true, Bool.not_false, Bool.false_eq_true, reduceCtorEq, hb, g2 hb, g1]
  · simp only [Bool.not_eq_true] at hb
    simp only [dIx_pick, dMod, dDiv, dList, dTuple, dRev, dSl, Int.reduceLT, Int.reduceLE, Int.reduceEq, Int.reduceSub, Int.reduceAdd, and_self, true_and, and_true, and_false, false_and, Int.cast_ofNat_Int, decide_true, decide_false, Bool.true_and, Bool.false_and, Bool.and_true, Bool.and_false, dIx_t0, dIx_t1, dIx_l0, dIx_l1, toItems, itemsOf, runF, runL, startE, endF, endL, R.bind_ok, R.bind_exc, R.bind_stuck, gSeq, gIf, gSet, gOwn, gRet, gRetL, gRetO, gDrop, gTgt, gT, gsC, gsN, gN, gFor, gApp, gExt, gFrz, gNil, gExc, eVar, eC, e1, e2, eA, aNil, aCons, eTup, eLst, eCall, lCall, listR, eChain, tV, tAndD, tOrD, tNotD, eAnd, eOr, eNot, eIf, eL, lDisp, lList, lRep, oNone, oSome, eSl, iSeq, iRng1, iRng2, iZipD, iEnumD, iRevD, lListRange, lLc, eSorted, eSortSet, eLenSet, eBor, tBor, tYesD, noE, toB, dCmp, dSub, dNeg, dInt, dLen, dIs, dIsNot, List.map_cons, List.map_nil, List.length_cons, List.length_nil, Nat.reduceAdd, Nat.reduceSub, Nat.reduceLeDiff, List.replicate, List.cons_append, List.nil_append, List.append_nil, List.getElem?_cons_zero, List.getElem?_cons_succ, List.set_cons_zero, List.set_cons_succ, if_true, if_false, reduceIte, Bool.not_true, Bool.not_false, Bool.false_eq_true, reduceCtorEq, hb, g1]
end W

set_option Elab.async false
set_option linter.all false
set_option maxRecDepth 100000
set_option maxHeartbeats 4000000
namespace W
open PySem PySem.Spec PyProof.Rows L2 PL
abbrev Rw : PySem.W.OpenRow := PySem.W.OpenLaw.row PySem.Challenge.rw_panplan_k04_plans_looked_at
abbrev hk : PySem.W.Hook := hookX 5 fa fn ex
def ob (s : PySem.W.SharedT) : He.AlD := obX 5 fa fn ex (HandSHeadRun.getT s)
theorem ob_eq (s : PySem.W.SharedT) : ob s = hk.obs s.abs := obX_eq (HandSHeadRun.getT_eq s)
def loose0 : List Str := ["PanError", "BadCount", "BadCases", "LEAST_THINGS", "MOST_THINGS", "MOST_CASES", "is_among", "need_many", "is_case", "need_cases", "is_pan", "is_weighing", "came", "OUTCOMES", "cases_by", "are_parts", "is_plan_for", "is_alike", "is_plan", "length_of", "walked", "_law_cell_at", "_law_mixed", "_law_whole", "_law_came", "_law_pans", "_law_pool", "_law_puzzle", "_law_alike", "_law_is_pan"]
def loose1 : List Str := ["_law_is_weighing", "_law_is_case_told", "_law_is_plan", "_law_length", "_law_apart", "_law_planned", "_law_thing", "_law_told_in", "_law_here_changed", "_law_changed", "_law_walk", "_law_goes"]
def loose : List Str := loose0 ++ loose1
set_option maxHeartbeats 0 in
theorem run (w : World) : HandSHeadRun.RunEq Rw (PySem.W.view Rw.prog [47]) hk ob 3000 loose w := by
  intro os
  kernel_rfl
end W
open PySem PySem.W PySem.Calls PyProof.Rows
set_option maxHeartbeats 0 in
theorem PySem.Challenge.cw_panplan_k04_plans_looked_at_holds : PySem.Challenge.rw_panplan_k04_plans_looked_at.Holds := by
  w_on; o_law
  refine HandSHeadRun.head_any (r := W.Rw) (q := view W.Rw.prog [47]) (H := W.hk) (ob := W.ob) (M := 3000) (loose := W.loose) (d := HandSHeadRun.topDef W.Rw.prog 47) (kwd := []) W.ob_eq
    (by kernel_rfl) (fun s => by kernel_rfl) W.run (by kernel_rfl) (by kernel_rfl) (by kernel_rfl) (by rfl)
    (by first | assumption | decide +kernel) (by decide +kernel) ⟨rfl, rfl, rfl, rfl, rfl, by decide +kernel⟩ ?hw ?hc
  case hw => w_witness2
  case hc =>
    refine PL.walk_ofG (l := PySem.Challenge.rw_panplan_k04_plans_looked_at) (k := 81) (x := "_law_script") rfl (by kernel_rfl) ⟨rfl, by decide, by decide⟩ (by kernel_rfl) ?F
    intro w mg f h Yv Gv hm0
    obtain ⟨K, kx, c, hex⟩ := Yv
    have T : W.TF K mg := ⟨⟨c, h, kx, Gv⟩, hex⟩
    have hm : mg ("law" : PySem.Str) = some (.ref f) := by
      have e : (HandSHeadRun.topDef W.Rw.prog 47).name = ("law" : PySem.Str) := by kernel_rfl
      rw [← e]
      exact hm0
    have e := hm.symm.trans (T.glo 51)
    cases e
    obtain ⟨fd, FD⟩ := c.def_ 35 (d := W.dF "law" 47) rfl
    have b := L2.FunD.bindsA (ps := ["_law_script"]) FD fun _ _ _ _ _ _ us hl => match us, hl with | [_], _ => rfl
    exact ⟨K, fd, W.cA K, _, _, _, _, _, _, _, W.g_law, kx, FD, W.sc_law, fun s v => b s [v] rfl, W.law_true, fun base _ _ cdv s H E so G => W.body_law T so G⟩

