import PyProof.Rows.All
import Wide.All
import OpenK.AllK
import Wide.FinOn
import HandS.ForMost
import HandS.ForExc
import HandS.ExcCtx
import HandS.Deep
import HandS.TupAny
import HandS.TupMul
import HandS.Zip
import HandS.IsInst
import HandS.Defaults
import HandS.Style
import HandS.HeadHook1
import KE.KDictKeyed
import KE.GoesEnum
import KE.GoesMore
import HandS.HeadHook2
import KE.SortData
import HandS.Strs
import HandS.SetFor
import HandS.Conv
import HandS.Dict
import HandS.ExcIs
import HandS.HotCalls
import PyProof.StrBlock2
import HandS.HeadEnd
import HandS.Head0
import HandS.Head1
import HandS.Head2
import PyProof.ReprRoads
import PyProof.ReprBulk
import PyProof.Rows.SetFrom
import PyProof.EqAt
import PySem.Challenge.RW_panplan_k10_whole_known_cases
set_option Elab.async false
set_option linter.all false
set_option maxRecDepth 100000
set_option maxHeartbeats 4000000
/-! The pure layer: what a def computes over plain data, on top of HandS. -/
namespace PL
open PySem PySem.Spec PyProof.Rows L2

/-! ### results -/
inductive R (α : Type) where
  | ok (a : α)
  | exc (n : Nat)
  | stuck
def R.bind {α β : Type} (r : R α) (k : α → R β) : R β := match r with
  | .ok a => k a
  | .exc n => .exc n
  | .stuck => .stuck
theorem R.bind_ok {α β : Type} (a : α) (k : α → R β) : (R.ok a).bind k = k a := rfl
theorem R.bind_exc {α β : Type} (n : Nat) (k : α → R β) : (R.exc n : R α).bind k = .exc n := rfl
theorem R.bind_stuck {α β : Type} (k : α → R β) : (R.stuck : R α).bind k = .stuck := rfl

abbrev D := PyData

/-! ### what stands for what -/
/-- the class Search -/
def clsS (K : PySem.W.Frag) : Addr := He.ga K ("Search" : Str)
mutual
inductive Rep (K : PySem.W.Frag) (M : Hp) : V → D → Prop
  | non : Rep K M .non .none
  | bl (b : Bool) : Rep K M (.bl b) (.bool b)
  | int (i : Int) : Rep K M (.int i) (.int i)
  | str (x : Str) : Rep K M (.str x) (.str x)
  | lst {a : Addr} {xs : List V} {ds : List D} : M a = some (.lst xs) → Reps K M xs ds → Rep K M (.ref a) (.list ds)
  /-- the script: read alone -/
  | scr {a : Addr} {xs : List V} {ds : List D} : SqL K M a xs → Reps K M xs ds → Rep K M (.ref a) (.dict [(.none, .list ds)])
  | tup {a : Addr} {xs : List V} {ds : List D} : SqT K M a xs → Reps K M xs ds → Rep K M (.ref a) (.tuple ds)
  | dic {a : Addr} : M a = some (.dK []) → Rep K M (.ref a) (.dict [])
  /-- an instance of the class Search: its cases, pans, rows; what is known stands apart -/
  | obj {a dx b : Addr} {v1 v2 v3 : V} {d1 d2 d3 : D} : M a = some (.ins (clsS K) dx [("cases", v1), ("pans", v2), ("rows", v3), ("known", .ref b)]) → Rep K M v1 d1 → Rep K M v2 d2 → Rep K M v3 d3 → Rep K M (.ref a) (.dict [(.none, .tuple [d1, d2, d3])])
inductive Reps (K : PySem.W.Frag) (M : Hp) : List V → List D → Prop
  | nil : Reps K M [] []
  | cons {v : V} {vs : List V} {d : D} {ds : List D} : Rep K M v d → Reps K M vs ds → Reps K M (v :: vs) (d :: ds)
end
section
variable {K : PySem.W.Frag} {M M' : Hp}
theorem sqT_same (s : Same M M') {a : Addr} {xs : List V} (h : SqT K M a xs) : SqT K M' a xs := by
  rcases h with (h | ⟨o, h⟩) | h
  · exact .inl (.inl (s _ _ h))
  · exact .inl (.inr ⟨o, s _ _ h⟩)
  · exact .inr h
mutual
theorem Rep.same (s : Same M M') : ∀ {v : V} {d : D}, Rep K M v d → Rep K M' v d
  | _, _, .non => .non
  | _, _, .bl b => .bl b
  | _, _, .int i => .int i
  | _, _, .str x => .str x
  | _, _, .lst h r => .lst (s _ _ h) (Reps.same s r)
  | _, _, .scr h r => .scr (s.seq h) (Reps.same s r)
  | _, _, .tup h r => .tup (sqT_same s h) (Reps.same s r)
  | _, _, .dic h => .dic (s _ _ h)
  | _, _, .obj h r1 r2 r3 => .obj (s _ _ h) (Rep.same s r1) (Rep.same s r2) (Rep.same s r3)
theorem Reps.same (s : Same M M') : ∀ {vs : List V} {ds : List D}, Reps K M vs ds → Reps K M' vs ds
  | _, _, .nil => .nil
  | _, _, .cons h t => .cons (Rep.same s h) (Reps.same s t)
end
theorem Reps.length : ∀ {vs : List V} {ds : List D}, Reps K M vs ds → vs.length = ds.length
  | _, _, .nil => rfl
  | _, _, .cons _ t => congrArg Nat.succ (Reps.length t)
theorem Reps.get : ∀ {vs : List V} {ds : List D} {i : Nat} {d : D}, Reps K M vs ds → ds[i]? = some d → ∃ v, vs[i]? = some v ∧ Rep K M v d
  | _, _, _, _, .nil, e => by simp at e
  | _, _, 0, _, .cons h _, e => by simp at e; subst e; exact ⟨_, rfl, h⟩
  | _, _, i + 1, d, .cons _ t, e => by
    obtain ⟨v, h1, h2⟩ := Reps.get (i := i) (d := d) t (by simpa using e)
    exact ⟨v, by simpa using h1, h2⟩
theorem Reps.append : ∀ {vs ws : List V} {ds es : List D}, Reps K M vs ds → Reps K M ws es → Reps K M (vs ++ ws) (ds ++ es)
  | _, _, _, _, .nil, h => h
  | _, _, _, _, .cons h t, h' => .cons h (Reps.append t h')
theorem Reps.take : ∀ {vs : List V} {ds : List D} (n : Nat), Reps K M vs ds → Reps K M (vs.take n) (ds.take n)
  | _, _, 0, _ => by simp; exact .nil
  | _, _, _ + 1, .nil => by simp; exact .nil
  | _, _, n + 1, .cons h t => .cons h (Reps.take n t)
theorem Reps.drop : ∀ {vs : List V} {ds : List D} (n : Nat), Reps K M vs ds → Reps K M (vs.drop n) (ds.drop n)
  | _, _, 0, h => by simpa using h
  | _, _, _ + 1, .nil => by simp; exact .nil
  | _, _, n + 1, .cons h t => by simpa using Reps.drop n t
theorem Reps.reverse : ∀ {vs : List V} {ds : List D}, Reps K M vs ds → Reps K M vs.reverse ds.reverse
  | _, _, .nil => .nil
  | _, _, .cons h t => by rw [List.reverse_cons, List.reverse_cons]; exact (Reps.reverse t).append (.cons h .nil)
theorem Reps.set {v : V} {d : D} (h : Rep K M v d) : ∀ {vs : List V} {ds : List D} (n : Nat), Reps K M vs ds → Reps K M (vs.set n v) (ds.set n d)
  | _, _, _, .nil => .nil
  | _, _, 0, .cons _ t => .cons h t
  | _, _, n + 1, .cons q t => .cons q (Reps.set h n t)
theorem Reps.erase : ∀ {vs : List V} {ds : List D} (n : Nat), Reps K M vs ds → Reps K M (vs.eraseIdx n) (ds.eraseIdx n)
  | _, _, _, .nil => .nil
  | _, _, 0, .cons _ t => t
  | _, _, n + 1, .cons q t => .cons q (Reps.erase n t)
theorem Reps.ints : ∀ {vs : List V} {ns : List Int}, Reps K M vs (ns.map PyData.int) → vs = ns.map V.int
  | _, [], .nil => rfl
  | _, n :: ns, .cons h t => by
    cases h
    rw [List.map_cons, Reps.ints t]
theorem Reps.of_ints : ∀ (ns : List Int), Reps K M (ns.map V.int) (ns.map PyData.int)
  | [] => .nil
  | n :: ns => .cons (.int n) (Reps.of_ints ns)
theorem Reps.bools : ∀ {vs : List V} {ns : List Bool}, Reps K M vs (ns.map PyData.bool) → vs = ns.map V.bl
  | _, [], .nil => rfl
  | _, n :: ns, .cons h t => by
    cases h
    rw [List.map_cons, Reps.bools t]
mutual
/-- no dict within -/
def noDic : D → Bool
  | .dict _ => false
  | .list xs => noDics xs
  | .tuple xs => noDics xs
  | _ => true
def noDics : List D → Bool
  | [] => true
  | x :: xs => noDic x && noDics xs
end
mutual
theorem Rep.dp : ∀ {v : V} {d : D}, d.canLay0 = true → Rep K M v d → Dp K M v d
  | _, _, _, .non => .non
  | _, _, _, .bl b => .bl b
  | _, _, _, .int i => .int i
  | _, _, _, .str x => .str x
  | _, _, e, .lst h r => .lst (SqL.of h) (Reps.dp (by simpa [PyData.canLay0] using e) r)
  | _, _, e, .scr h r => by simp [PyData.canLay0] at e
  | _, _, e, .tup h r => .tup h (Reps.dp (by simpa [PyData.canLay0] using e) r)
  | _, _, e, .dic h => by simp [PyData.canLay0] at e
  | _, _, e, .obj _ _ _ _ => by simp [PyData.canLay0] at e
theorem Reps.dp : ∀ {vs : List V} {ds : List D}, PyData.canLayAll0 ds = true → Reps K M vs ds → DpAll K M vs ds
  | _, _, _, .nil => .nil
  | v :: vs, d :: ds, e, .cons h t => by
    have e' : PyData.canLay0 d = true ∧ PyData.canLayAll0 ds = true := by simpa [PyData.canLayAll0] using e
    exact .cons (Rep.dp e'.1 h) (Reps.dp e'.2 t)
end
theorem sqL_up {H : Hp} (s : Same M H) {a : Addr} {xs : List V} (h : SqL K M a xs) : SqL K H a xs := s.seq h
mutual
theorem Dp.up {H : Hp} (s : Same M H) : ∀ {v : V} {d : D}, Dp K M v d → Dp K H v d
  | _, _, .non => .non
  | _, _, .bl b => .bl b
  | _, _, .int i => .int i
  | _, _, .str x => .str x
  | _, _, .lst h r => .lst (s.seq h) (DpAll.up s r)
  | _, _, .tup h r => .tup (sqT_same s h) (DpAll.up s r)
theorem DpAll.up {H : Hp} (s : Same M H) : ∀ {vs : List V} {ds : List D}, DpAll K M vs ds → DpAll K H vs ds
  | _, _, .nil => .nil
  | _, _, .cons h t => .cons (Dp.up s h) (DpAll.up s t)
end
end

/-! ### heaps: what may not change, how they grow -/
def imm : HO → Bool
  | .lst _ => true
  | .tup _ => true
  | .frz _ _ => true
  | .dK _ => true
  | .ins _ _ _ => true
  | _ => false
def isIns : HO → Bool
  | .ins _ _ _ => true
  | _ => false
def isLst : HO → Bool
  | .lst _ => true
  | _ => false
def isExt : HO → Bool
  | .ext _ => true
  | _ => false
set_option linter.unusedVariables false in
def Keep (b : Bool) (H H' : Hp) : Prop := ∀ a o, H a = some o → H' a = some o ∨ (isExt o = true ∧ ∃ o', H' a = some o' ∧ isExt o' = true)
theorem Keep.refl {b : Bool} {H : Hp} : Keep b H H := fun _ _ h => .inl h
theorem Keep.of {b : Bool} {H H' : Hp} (s : Same H H') : Keep b H H' := fun a o h => .inl (s a o h)
theorem Keep.trans {b : Bool} {H H1 H2 : Hp} (x : Keep b H H1) (y : Keep b H1 H2) : Keep b H H2 := fun a o h => by
  rcases x a o h with h1 | ⟨he, o', h1, he'⟩
  · exact y a o h1
  · rcases y a o' h1 with h2 | ⟨_, o2, h2, he2⟩
    · exact .inr ⟨he, o', h2, he'⟩
    · exact .inr ⟨he, o2, h2, he2⟩
theorem Keep.free {b : Bool} {H H' : Hp} (x : Keep b H H') {a : Addr} (h : H' a = none) : H a = none := by
  cases e : H a with
  | none => rfl
  | some o =>
    rcases x a o e with h1 | ⟨_, o', h1, _⟩
    · rw [h] at h1; cases h1
    · rw [h] at h1; cases h1
theorem Keep.at {b : Bool} {H H' : Hp} (x : Keep b H H') {a : Addr} {o : HO} (h : H a = some o) (n : isExt o = false) : H' a = some o := by
  rcases x a o h with h1 | ⟨he, _⟩
  · exact h1
  · rw [n] at he; cases he
theorem Keep.to {b c : Bool} {H H' : Hp} (x : Keep b H H') : Keep c H H' := x
/-- M is a part of H that stays -/
def MOk (M H : Hp) : Prop := ∀ a o, M a = some o → H a = some o ∧ imm o = true
/-! ### what a Search knows -/
/-- the places in s whose number in the row r is d -/
def idxI (s r : List Int) (d : Int) : List Int := s.filter fun k => decide (r.getD k.toNat 0 = d)
def partsI (r s : List Int) : List (List Int) := [idxI s r (-1), idxI s r 0, idxI s r 1]
def tryI (f : List Int → Bool) (s r : List Int) : Bool := !decide (s ∈ partsI r s) && (partsI r s).all f
/-- whether there is a plan of so many weighings at most -/
def fitI (rows : List (List Int)) : Nat → List Int → Bool
  | 0, s => decide (s.length < 2)
  | n + 1, s => decide (s.length < 2) || (!decide (3 ^ (n + 1) < s.length) && rows.any (tryI (fitI rows n) s))
def subsI : List Int → List (List Int)
  | [] => [[]]
  | x :: r => subsI r ++ (subsI r).map (x :: ·)
def subs12 : List (List Int) := subsI [0, 1, 2, 3, 4, 5, 6, 7, 8, 9, 10, 11]
def rowsD (rows : List (List Int)) : D := .list (rows.map fun r => .list (r.map PyData.int))
def keyN (s : List Int) (n : Nat) : NestedKey := .tup [.tup (s.map NestedKey.num), .num n]
def KeyAt (K : PySem.W.Frag) (H : Hp) (q : Addr) (s : List Int) (n : Nat) : Prop := ∃ p, SqT K H q [.ref p, .int n] ∧ SqT K H p (s.map V.int)
/-- keys, where each stands, truth values -/
abbrev MX := List ((List Int × Nat) × Addr × Bool)
def memX (xs : MX) : List (NestedKey × Addr × Value) := xs.map fun x => (keyN x.1.1 x.1.2, x.2.1, Value.bool x.2.2)
def dictP (b : Addr) (xs : MX) : Heap → Prop := fun h => ∃ (w : World) (o : Obj) (es : Array DictEntry) (ep : Nat), h.get? b = some o ∧ o.ExactDict ∧ o.data = .dict es ep ∧ es.toList = (memX xs).map (fun x => ⟨NestedKey.hash w x.1, .ref x.2.1, x.2.2⟩) ∧ ((memX xs).map (·.1)).Nodup
def MemAt (K : PySem.W.Frag) (M H : Hp) (v3 : V) (b : Addr) : Prop := ∃ rows xs, Rep K M v3 (rowsD rows) ∧ (b == sysModules) = false ∧ H b = some (.ext (dictP b xs)) ∧
  ∀ x ∈ xs, KeyAt K H x.2.1 x.1.1 x.1.2 ∧ x.2.2 = fitI rows x.1.2 x.1.1 ∧ x.1.1 ∈ subs12 ∧ x.1.2 < 20
structure MemOk (K : PySem.W.Frag) (M H : Hp) : Prop where
  at_ : ∀ a C dx fs, M a = some (.ins C dx fs) → ∃ (v1 v2 v3 : V) (b : Addr), fs = ([("cases", v1), ("pans", v2), ("rows", v3), ("known", .ref b)] : List (Str × V)) ∧ MemAt K M H v3 b
  inj : ∀ (a a' C C' dx dx' : Addr) (v1 v2 v3 v1' v2' v3' : V) (b : Addr), M a = some (.ins C dx [("cases", v1), ("pans", v2), ("rows", v3), ("known", .ref b)]) → M a' = some (.ins C' dx' [("cases", v1'), ("pans", v2'), ("rows", v3'), ("known", .ref b)]) → a = a'
section
variable {K : PySem.W.Frag} {M M' H H' : Hp}
theorem sqT_step (k : ∀ a o, H a = some o → isLst o = false → isExt o = false → H' a = some o) {a : Addr} {xs : List V} (h : SqT K H a xs) : SqT K H' a xs := by
  rcases h with (h | ⟨o, h⟩) | h
  · exact .inl (.inl (k _ _ h rfl rfl))
  · exact .inl (.inr ⟨o, k _ _ h rfl rfl⟩)
  · exact .inr h
theorem KeyAt.step (k : ∀ a o, H a = some o → isLst o = false → isExt o = false → H' a = some o) {q : Addr} {s : List Int} {n : Nat} (h : KeyAt K H q s n) : KeyAt K H' q s n := by
  obtain ⟨p, h1, h2⟩ := h
  exact ⟨p, sqT_step k h1, sqT_step k h2⟩
/-- lists may change, all else stays -/
theorem MemOk.step (m : MemOk K M H) (k : ∀ a o, H a = some o → isLst o = false → H' a = some o) : MemOk K M H' := by
  refine ⟨fun a C dx fs h => ?_, m.inj⟩
  obtain ⟨v1, v2, v3, b, e, rows, xs, r, hb, hx, hk⟩ := m.at_ a C dx fs h
  exact ⟨v1, v2, v3, b, e, rows, xs, r, hb, k _ _ hx rfl, fun x hx => ⟨(hk x hx).1.step fun a o h1 h2 _ => k a o h1 h2, (hk x hx).2⟩⟩
theorem MemOk.same (m : MemOk K M H) (s : Same H H') : MemOk K M H' := m.step fun a o h _ => s a o h
theorem MemOk.up (m : MemOk K M H) (s : Same M M') (n : ∀ a o, M' a = some o → M a = none → isIns o = false) : MemOk K M' H := by
  have back : ∀ a C dx fs, M' a = some (.ins C dx fs) → M a = some (.ins C dx fs) := fun a C dx fs h => by
    cases q : M a with
    | none => exact absurd (n a _ h q) (by simp [isIns])
    | some o =>
      have := s a o q
      rw [h] at this
      cases this
      rfl
  refine ⟨fun a C dx fs h => ?_, fun a a' C C' dx dx' v1 v2 v3 v1' v2' v3' b h h' => m.inj _ _ _ _ _ _ _ _ _ _ _ _ _ (back _ _ _ _ h) (back _ _ _ _ h')⟩
  obtain ⟨v1, v2, v3, b, e, rows, xs, r, q⟩ := m.at_ a C dx fs (back a C dx fs h)
  exact ⟨v1, v2, v3, b, e, rows, xs, r.same s, q⟩
theorem rowsRep_fun (s : Same M M') {v : V} {rows rows' : List (List Int)} (h : Rep K M v (rowsD rows)) (h' : Rep K M' v (rowsD rows')) : rows = rows' := by
  have h2 := h.same s
  clear h s
  unfold rowsD at h2 h'
  cases h2 with
  | lst q r =>
    cases h' with
    | lst q' r' =>
      rw [q] at q'
      cases q'
      clear q
      rename_i xs
      induction rows generalizing xs rows' with
      | nil =>
        cases r
        cases rows' with
        | nil => rfl
        | cons r0 rs => cases r'
      | cons r0 rs ih =>
        cases r with
        | cons ra rb =>
          cases rows' with
          | nil => cases r'
          | cons r1 rs' =>
            cases r' with
            | cons ra' rb' =>
              have e0 : r0 = r1 := by
                cases ra with
                | lst z1 z2 =>
                  cases ra' with
                  | lst z1' z2' =>
                    rw [z1] at z1'
                    cases z1'
                    have e1 := z2.ints
                    have e2 := z2'.ints
                    rw [e1] at e2
                    exact (List.map_inj_right fun x y e => V.int.inj e).mp e2
              rw [e0, ih rb rb']
end
theorem MemOk.down {K : PySem.W.Frag} {M M' H H' : Hp} (m : MemOk K M H) (m' : MemOk K M' H') (s : Same M M') : MemOk K M H' := by
  refine ⟨fun a C dx fs h => ?_, m.inj⟩
  obtain ⟨v1, v2, v3, b, e, rows, xs, r, hb, hx, hk⟩ := m.at_ a C dx fs h
  obtain ⟨w1, w2, w3, b', e', rows', xs', r', hb', hx', hk'⟩ := m'.at_ a C dx fs (s _ _ h)
  subst e
  cases e'
  have := rowsRep_fun s r r'
  subst this
  exact ⟨v1, v2, v3, b, rfl, rows, xs', r, hb', hx', hk'⟩
structure Grow (M H M' H' : Hp) : Prop where
  h : Same H H'
  m : Same M M'
  ok : MOk M' H'
  new : ∀ a o, M' a = some o → M a = none → H a = none
  ins : ∀ a o, M' a = some o → M a = none → isIns o = false
theorem Grow.refl {M H : Hp} (k : MOk M H) : Grow M H M H := ⟨Same.refl _, Same.refl _, k, (fun a o h n => by rw [h] at n; cases n), (fun a o h n => by rw [h] at n; cases n)⟩
theorem Grow.trans {M H M1 H1 M2 H2 : Hp} (x : Grow M H M1 H1) (y : Grow M1 H1 M2 H2) : Grow M H M2 H2 where
  h := x.h.trans y.h
  m := x.m.trans y.m
  ok := y.ok
  new := fun a o h n => by
    cases e : M1 a with
    | none => exact x.h.free (y.new a o h e)
    | some o1 => exact x.new a o1 e n
  ins := fun a o h n => by
    cases e : M1 a with
    | none => exact y.ins a o h e
    | some o1 =>
      have := y.m a o1 e
      rw [h] at this
      cases this
      exact x.ins a _ e n
/-- what an evaluation may do -/
structure Step (b : Bool) (M H M' H' : Hp) : Prop where
  k : Keep b H H'
  m : Same M M'
  new : ∀ a o, M' a = some o → M a = none → H a = none
theorem Step.refl {b : Bool} {M H : Hp} : Step b M H M H := ⟨.refl, Same.refl _, fun a o h n => by rw [h] at n; cases n⟩
theorem Step.of {b : Bool} {M H M' H' : Hp} (g : Grow M H M' H') : Step b M H M' H' := ⟨.of g.h, g.m, g.new⟩
theorem Step.trans {b : Bool} {M H M1 H1 M2 H2 : Hp} (x : Step b M H M1 H1) (y : Step b M1 H1 M2 H2) : Step b M H M2 H2 where
  k := x.k.trans y.k
  m := x.m.trans y.m
  new := fun a o h n => by
    cases e : M1 a with
    | none => exact x.k.free (y.new a o h e)
    | some o1 => exact x.new a o1 e n
theorem upd_same_of {M : Hp} {p : Addr} {o : HO} (h : M p = none) : Same M (upd M p o) := fun a u e => by
  rw [upd_ne (fun z => by subst z; rw [h] at e; cases e)]; exact e
theorem MOk.free {M H : Hp} (k : MOk M H) {p : Addr} (h : H p = none) : M p = none := by
  cases e : M p with
  | none => rfl
  | some o => rw [(k p o e).1] at h; cases h
theorem MOk.upd {M H : Hp} (k : MOk M H) {p : Addr} {o : HO} (h : H p = none) (i : imm o = true) : MOk (upd M p o) (upd H p o) := fun a u e => by
  by_cases z : a = p
  · subst z; rw [upd_same] at e ⊢; cases e; exact ⟨rfl, i⟩
  · rw [upd_ne z] at e ⊢; exact k a u e
/-- a new object that stays -/
theorem Grow.alloc {M H : Hp} (k : MOk M H) {p : Addr} {o : HO} (h : H p = none) (i : imm o = true) (ni : isIns o = false := by rfl) : Grow M H (upd M p o) (upd H p o) where
  h := upd_same_of h
  m := upd_same_of (k.free h)
  ok := k.upd h i
  new := fun a u e n => by
    by_cases z : a = p
    · subst z; exact h
    · rw [upd_ne z] at e; rw [e] at n; cases n
  ins := fun a u e n => by
    by_cases z : a = p
    · subst z; rw [upd_same] at e; cases e; exact ni
    · rw [upd_ne z] at e; rw [e] at n; cases n
theorem MOk.same {M H : Hp} (k : MOk M H) : Same M H := fun a o h => (k a o h).1

/-! ### objects (the class Search), by what is said of them -/
/-- the entry -/
structure Ent where
  M : Hp
  H : Hp
  b : Bool
structure ObjB where
  Dat : Type
  rep : PySem.W.Frag → Ent → Hp → Hp → V → Dat → Prop
  mono : ∀ K I M H M' H' v z, rep K I M H v z → Same M M' → (∀ a o, M' a = some o → M a = none → I.H a = none ∨ H a = none) → (∀ a o, H a = some o → isExt o = false → (imm o = false ∨ I.H a ≠ none) → H' a = some o) → rep K I M' H' v z
abbrev noObj : ObjB := ⟨Empty, fun _ _ _ _ _ _ => False, fun _ _ _ _ _ _ _ _ h _ _ _ => h⟩

/-! ### environments -/
inductive Slot (B : ObjB) where
  | no
  | val (d : D)
  | own (ds : List D)
  | obj (z : B.Dat)
abbrev Env (B : ObjB) := List (Slot B)
/-- what is fixed through a derivation -/
structure Ctx (B : ObjB) where
  K : PySem.W.Frag
  cA : Nat → Addr
  E : XK
section
variable {B : ObjB}
def SlotR (K : PySem.W.Frag) (I : Ent) (M H : Hp) (w : Option (Option V)) : Slot B → Prop
  | .no => True
  | .val d => ∃ v, w = some (some v) ∧ Rep K M v d
  | .own ds => ∃ l vs, w = some (some (.ref l)) ∧ H l = some (.lst vs) ∧ M l = none ∧ I.H l = none ∧ Reps K M vs ds
  | .obj z => ∃ v, w = some (some v) ∧ B.rep K I M H v z
structure EnvR (K : PySem.W.Frag) (I : Ent) (M H : Hp) (σ : L2.St) (ρ : Env B) : Prop where
  len : σ.length = ρ.length
  ent : Keep I.b I.H H
  msub : Same I.M M
  mok : MOk M H
  mem : MemOk K M H
  mnew : ∀ a o, M a = some o → I.M a = none → I.H a = none
  slots : ∀ (i : Nat) (s : Slot B), ρ[i]? = some s → SlotR K I M H σ[i]? s
  apart : ∀ (i j : Nat) (ds es : List D), i ≠ j → ρ[i]? = some (.own ds) → ρ[j]? = some (.own es) → σ[i]? ≠ σ[j]?
variable {c : Ctx B} {I : Ent} {M H M' H' : Hp} {σ : L2.St} {ρ : Env B}
theorem SlotR.grow {K : PySem.W.Frag} {w : Option (Option V)} {s : Slot B} (g : Grow M H M' H') (h : SlotR K I M H w s) : SlotR K I M' H' w s := by
  cases s with
  | no => trivial
  | val d => obtain ⟨v, e, r⟩ := h; exact ⟨v, e, r.same g.m⟩
  | own ds =>
    obtain ⟨l, vs, e, hl, ml, il, r⟩ := h
    refine ⟨l, vs, e, g.h _ _ hl, ?_, il, r.same g.m⟩
    cases q : M' l with
    | none => rfl
    | some o => rw [g.new l o q ml] at hl; cases hl
  | obj z => obtain ⟨v, e, r⟩ := h; exact ⟨v, e, B.mono _ _ _ _ _ _ _ _ r g.m (fun a o q n => .inr (g.new a o q n)) fun a o q _ _ => g.h a o q⟩
theorem EnvR.grow {K : PySem.W.Frag} (e : EnvR K I M H σ ρ) (g : Grow M H M' H') : EnvR K I M' H' σ ρ where
  len := e.len
  ent := e.ent.trans (.of g.h)
  msub := e.msub.trans g.m
  mok := g.ok
  mem := (e.mem.same g.h).up g.m g.ins
  mnew := fun a o h n => by
    cases q : M a with
    | none => exact e.ent.free (g.new a o h q)
    | some o' => exact e.mnew a o' q n
  slots := fun i s h => (e.slots i s h).grow g
  apart := e.apart

/-- what a call may do -/
structure GrowT (K : PySem.W.Frag) (M H M' H' : Hp) : Prop where
  k : Keep false H H'
  m : Same M M'
  ok : MOk M' H'
  new : ∀ a o, M' a = some o → M a = none → H a = none
  mem : MemOk K M' H'
structure MOkT (K : PySem.W.Frag) (M H : Hp) : Prop where
  ok : MOk M H
  mem : MemOk K M H
theorem EnvR.okT {K : PySem.W.Frag} (e : EnvR K I M H σ ρ) : MOkT K M H := ⟨e.mok, e.mem⟩
theorem Step.ofT {b : Bool} {K : PySem.W.Frag} {M H M' H' : Hp} (g : GrowT K M H M' H') : Step b M H M' H' := ⟨g.k, g.m, g.new⟩
theorem EnvR.growT {K : PySem.W.Frag} (e : EnvR K I M H σ ρ) (g : GrowT K M H M' H') : EnvR K I M' H' σ ρ where
  len := e.len
  ent := e.ent.trans g.k
  msub := e.msub.trans g.m
  mok := g.ok
  mem := g.mem
  mnew := fun a o h n => by
    cases q : M a with
    | none => exact e.ent.free (g.new a o h q)
    | some o' => exact e.mnew a o' q n
  slots := fun i s h => by
    have h := e.slots i s h
    cases s with
    | no => trivial
    | val d => obtain ⟨v, e, r⟩ := h; exact ⟨v, e, r.same g.m⟩
    | own ds =>
      obtain ⟨l, vs, e, hl, ml, il, r⟩ := h
      refine ⟨l, vs, e, g.k.at hl rfl, ?_, il, r.same g.m⟩
      cases q : M' l with
      | none => rfl
      | some o => rw [g.new l o q ml] at hl; cases hl
    | obj z => obtain ⟨v, e, r⟩ := h; exact ⟨v, e, B.mono _ _ _ _ _ _ _ _ r g.m (fun a o q n => .inr (g.new a o q n)) fun a o q n _ => g.k.at q n⟩
  apart := e.apart

/-! ### readings over data -/
def RD (c : Ctx B) (I : Ent) {α : Type} (r : R α) (P : α → Prop) : Prop := match r with
  | .ok a => P a
  | .exc _ => False
  | .stuck => False
theorem RD.bind {α β : Type} {r : R α} {k : α → R β} {P : β → Prop} (h : RD c I (r.bind k) P) : RD c I r (fun a => RD c I (k a) P) := by
  cases r with
  | ok a => exact h
  | exc n => exact h
  | stuck => exact h
theorem RD.mono {α : Type} {r : R α} {P Q : α → Prop} (h : RD c I r P) (k : ∀ a, P a → Q a) : RD c I r Q := by
  cases r with
  | ok a => exact k a h
  | exc n => exact h
  | stuck => exact h
theorem RD.case {α : Type} {r : R α} {P Q : α → Prop} (h : RD c I r P) (k : ∀ a, r = .ok a → P a → Q a) : RD c I r Q := by
  cases r with
  | ok a => exact k a rfl h
  | exc n => exact h
  | stuck => exact h
/-- what is wanted of a value, of several, of a truth value, of nothing -/
def Post (c : Ctx B) (I : Ent) (M H : Hp) (σ : L2.St) (ρ : Env B) (Q : VK) (d : D) : Prop := ∀ v H' M', Step I.b M H M' H' → EnvR c.K I M' H' σ ρ → Rep c.K M' v d → Q v H'
def PostA (c : Ctx B) (I : Ent) (M H : Hp) (σ : L2.St) (ρ : Env B) (Q : List V → Hp → Prop) (ds : List D) : Prop := ∀ vs H' M', Step I.b M H M' H' → EnvR c.K I M' H' σ ρ → Reps c.K M' vs ds → Q vs H'
def PostT (c : Ctx B) (I : Ent) (M H : Hp) (σ : L2.St) (ρ : Env B) (Q : Bool → Hp → Prop) (d : Bool) : Prop := ∀ H' M', Step I.b M H M' H' → EnvR c.K I M' H' σ ρ → Q d H'
def tD (c : Ctx B) (f : Env B → R D) : TE := fun σ H Q => ∃ I M ρ, EnvR c.K I M H σ ρ ∧ RD c I (f ρ) (Post c I M H σ ρ Q)
def tDA (c : Ctx B) (f : Env B → R (List D)) : TA := fun σ H Q => ∃ I M ρ, EnvR c.K I M H σ ρ ∧ RD c I (f ρ) (PostA c I M H σ ρ Q)
def tDT (c : Ctx B) (f : Env B → R Bool) : TT := fun σ H Q => ∃ I M ρ, EnvR c.K I M H σ ρ ∧ RD c I (f ρ) (PostT c I M H σ ρ Q)
end

theorem passN {X : Cx} : Passes (L2N.CX X.prog X.w) X E0 := fun _ _ _ _ _ _ _ ⟨_, _, _, _, _, _, _, _, _, _, _, _, z⟩ => z.elim
/-- what a body's context gives -/
structure Good {B : ObjB} (X : Cx) (c : Ctx B) (k : Nat) : Prop where
  K : c.K = X.K
  nd : X.N.Nodup
  calm : X.calm = true
  room : Room k X.A
  pass : Passes (L2N.CX X.prog X.w) X c.E
/-- .. and a statement's -/
structure GoodS {B : ObjB} (X : Cx) (c : Ctx B) (k : Nat) : Prop extends Good X c k where
  own : PassesOwn (model X.prog X.w) X.A X.env X.xe
  takes : L2N.Takes X (fun cls d _ H => c.E cls d H)

section
variable {B : ObjB}
structure DE (X : Cx) (c : Ctx B) (e : Expr) (f : Env B → R D) : Prop where
  pe : PE X e (tD c f)
structure DA (X : Cx) (c : Ctx B) (es : List Expr) (f : Env B → R (List D)) : Prop where
  pa : PA X es (tDA c f)
structure DT (X : Cx) (c : Ctx B) (e : Expr) (f : Env B → R Bool) : Prop where
  pt : PT X e (tDT c f)
structure DW (X : Cx) (c : Ctx B) (e : Expr) (f : Env B → R Bool) : Prop where
  pw : PW X e (tDT c f)

/-! ### monotone readings -/
theorem PE.imp {X : Cx} {e : Expr} {t u : TE} (h : PE X e t) (k : ∀ σ H Q, u σ H Q → t σ H Q) : PE X e u := ⟨fun pins s σ H Q I q => h.run pins s σ H Q I (k σ H Q q)⟩
theorem PT.imp {X : Cx} {e : Expr} {t u : TT} (h : PT X e t) (k : ∀ σ H Q, u σ H Q → t σ H Q) : PT X e u := ⟨fun pins s σ H Q I q => h.run pins s σ H Q I (k σ H Q q)⟩
theorem PW.imp {X : Cx} {e : Expr} {t u : TT} (h : PW X e t) (k : ∀ σ H Q, u σ H Q → t σ H Q) : PW X e u := ⟨fun wh pins s σ H Q I q => h.run wh pins s σ H Q I (k σ H Q q)⟩
theorem PA.imp {X : Cx} {e : List Expr} {t u : TA} (h : PA X e t) (k : ∀ σ H Q, u σ H Q → t σ H Q) : PA X e u := ⟨fun pos pins s σ H Q I q => h.run pos pins s σ H Q I (k σ H Q q)⟩
theorem PS.imp {X : Cx} {e : Stmt} {t u : TS} (h : PS X e t) (k : ∀ D σ H, u D σ H → t D σ H) : PS X e u := ⟨fun pins s σ H D I q => h.run pins s σ H D I (k D σ H q)⟩
theorem PSs.imp {X : Cx} {e : List Stmt} {t u : TS} (h : PSs X e t) (k : ∀ D σ H, u D σ H → t D σ H) : PSs X e u := ⟨fun pins s σ H D I q => h.run pins s σ H D I (k D σ H q)⟩

/-! ### names, constants -/
def eVar (i : Nat) : Env B → R D := fun ρ => match ρ[i]? with
  | some (.val d) => .ok d
  | _ => .stuck
def eC (d : D) : Env B → R D := fun _ => .ok d
variable {X : Cx} {c : Ctx B} {k : Nat} {pos : Pos}
theorem de_var {i : Nat} {x : Str} (hN : X.N[i]? = some x) (hv : Vis X.env.scope x) (hd : (x == ("__debug__" : Str)) = false := by decide) (hcd : (x == ("__classdict__" : Str)) = false := by decide) : DE X c (.Name x pos) (eVar i) := by
  refine ⟨PE.imp (pe_var hN hv hd hcd) fun σ H Q ⟨I, M, ρ, e, h⟩ => ?_⟩
  unfold eVar at h
  split at h
  · rename_i d q
    obtain ⟨v, e1, r⟩ := e.slots i _ q
    exact ⟨v, e1, h v H M .refl e r⟩
  · exact h.elim
theorem de_const {e : Expr} {v : V} {d : D} (h : PE X e (tC v)) (r : ∀ M, Rep c.K M v d) : DE X c e (eC d) :=
  ⟨PE.imp h fun σ H Q ⟨I, M, ρ, e, q⟩ => q v H M .refl e (r M)⟩
theorem de_int {i j} : DE X c (.Constant (.int i) j pos) (eC (.int i)) := de_const pe_int fun _ => .int i
theorem de_bl {b j} : DE X c (.Constant (.bool b) j pos) (eC (.bool b)) := de_const pe_bl fun _ => .bl b
theorem de_non {j} : DE X c (.Constant .none j pos) (eC .none) := de_const pe_non fun _ => .non
theorem de_str {x j} : DE X c (.Constant (.str x) j pos) (eC (.str x)) := de_const pe_str fun _ => .str x
theorem de_glob {x : Str} {v : V} {u : Value} {d : D} (hg : Gl X x) (hm : X.mg x = some u) (r : RelV v u) (rd : ∀ M, Rep c.K M v d) (hd : (x == ("__debug__" : Str)) = false := by decide) : DE X c (.Name x pos) (eC d) :=
  de_const (pe_glob hg hm r hd) rd

/-! ### operations by their values -/
def Ok1 (K : PySem.W.Frag) (r : V → Hp → VK → Prop) (F : D → R D) : Prop := ∀ M H v dv d (Q : VK), MOk M H → Rep K M v dv → F dv = .ok d → (∀ v' H' M', Grow M H M' H' → Rep K M' v' d → Q v' H') → r v H Q
def Ok2 (K : PySem.W.Frag) (r : R2) (F : D → D → R D) : Prop := ∀ M H v w dv dw d (Q : VK), MOk M H → Rep K M v dv → Rep K M w dw → F dv dw = .ok d → (∀ v' H' M', Grow M H M' H' → Rep K M' v' d → Q v' H') → r v w H Q
def OkA (K : PySem.W.Frag) (r : List V → Hp → VK → Prop) (F : List D → R D) : Prop := ∀ M H vs ds d (Q : VK), MOk M H → Reps K M vs ds → F ds = .ok d → (∀ v' H' M', Grow M H M' H' → Rep K M' v' d → Q v' H') → r vs H Q
/-- F gives no error of its own -/
def noE {α : Type} (r : R α) : R α := match r with
  | .exc _ => .stuck
  | r => r
theorem noE_ok {α : Type} {r : R α} {a : α} (h : noE r = .ok a) : r = .ok a := by
  cases r with
  | ok b => exact h
  | exc n => cases h
  | stuck => cases h
theorem RD.noE {α : Type} {I : Ent} {r : R α} {P : α → Prop} (h : RD c I (PL.noE r) P) : ∃ a, r = .ok a ∧ P a := by
  cases r with
  | ok a => exact ⟨a, rfl, h⟩
  | exc n => exact h.elim
  | stuck => exact h.elim
def e1 (F : D → R D) (f : Env B → R D) : Env B → R D := fun ρ => (f ρ).bind fun x => noE (F x)
def e2 (F : D → D → R D) (f g : Env B → R D) : Env B → R D := fun ρ => (f ρ).bind fun x => (g ρ).bind fun y => noE (F x y)
def eA (F : List D → R D) (f : Env B → R (List D)) : Env B → R D := fun ρ => (f ρ).bind fun x => noE (F x)
/-- the end of an operation -/
theorem post_grow {I : Ent} {M0 H0 M H : Hp} {σ : L2.St} {ρ : Env B} {Q : VK} {d : D} (h : Post c I M0 H0 σ ρ Q d) (k : Step I.b M0 H0 M H) (e : EnvR c.K I M H σ ρ) :
    ∀ v' H' M', Grow M H M' H' → Rep c.K M' v' d → Q v' H' := fun v' H' M' g r => h v' H' M' (k.trans (.of g)) (e.grow g) r
theorem de_1 {e a : Expr} {ta : TE} {r : V → Hp → VK → Prop} {F : D → R D} {f : Env B → R D} (h : ∀ {t : TE}, PE X a t → PE X e (tUn r t)) (hF : Ok1 c.K r F) (ha : DE X c a f) : DE X c e (e1 F f) := by
  refine ⟨PE.imp (h ha.pe) fun σ H Q ⟨I, M, ρ, e, q⟩ => ?_⟩
  refine ⟨I, M, ρ, e, q.bind.mono fun x hx v H1 M1 k1 e1 r1 => ?_⟩
  obtain ⟨d, hd, hp⟩ := hx.noE
  exact hF M1 H1 v x d Q e1.mok r1 hd (post_grow hp k1 e1)
theorem de_2 {e a b : Expr} {r : R2} {F : D → D → R D} {f g : Env B → R D} (h : ∀ {t u : TE}, PE X a t → PE X b u → PE X e (tOp r t u)) (hF : Ok2 c.K r F) (ha : DE X c a f) (hb : DE X c b g) : DE X c e (e2 F f g) := by
  refine ⟨PE.imp (h ha.pe hb.pe) fun σ H Q ⟨I, M, ρ, e, q⟩ => ?_⟩
  refine ⟨I, M, ρ, e, q.bind.mono fun x hx v H1 M1 k1 e1 r1 => ?_⟩
  refine ⟨I, M1, ρ, e1, hx.bind.mono fun y hy u H2 M2 k2 e2 r2 => ?_⟩
  obtain ⟨d, hd, hp⟩ := hy.noE
  exact hF M2 H2 v u x y d Q e2.mok (r1.same k2.m) r2 hd (post_grow hp (k1.trans k2) e2)
theorem de_A {e : Expr} {es : List Expr} {r : List V → Hp → VK → Prop} {F : List D → R D} {f : Env B → R (List D)} (h : ∀ {t : TA}, PA X es t → PE X e (tCB r t)) (hF : OkA c.K r F) (ha : DA X c es f) : DE X c e (eA F f) := by
  refine ⟨PE.imp (h ha.pa) fun σ H Q ⟨I, M, ρ, e, q⟩ => ?_⟩
  refine ⟨I, M, ρ, e, q.bind.mono fun x hx v H1 M1 k1 e1 r1 => ?_⟩
  obtain ⟨d, hd, hp⟩ := hx.noE
  exact hF M1 H1 v x d Q e1.mok r1 hd (post_grow hp k1 e1)

/-! ### argument lists -/
def aNil : Env B → R (List D) := fun _ => .ok []
def aCons (f : Env B → R D) (g : Env B → R (List D)) : Env B → R (List D) := fun ρ => (f ρ).bind fun x => (g ρ).bind fun xs => .ok (x :: xs)
theorem da_nil : DA X c [] (aNil : Env B → R (List D)) := ⟨PA.imp pa_nil fun σ H Q ⟨I, M, ρ, e, q⟩ => q [] H M .refl e .nil⟩
theorem da_cons {e : Expr} {es : List Expr} {f : Env B → R D} {g : Env B → R (List D)} (h : DE X c e f) (h' : DA X c es g) (hs : starEach (e :: es) X.env = (false, eval e X.env) :: starEach es X.env := by rfl) : DA X c (e :: es) (aCons f g) := by
  refine ⟨PA.imp (pa_cons h.pe h'.pa hs) fun σ H Q ⟨I, M, ρ, e, q⟩ => ?_⟩
  refine ⟨I, M, ρ, e, q.bind.mono fun x hx v H1 M1 k1 e1 r1 => ?_⟩
  refine ⟨I, M1, ρ, e1, hx.bind.mono fun xs hxs vs H2 M2 k2 e2 r2 => ?_⟩
  exact hxs (v :: vs) H2 M2 (k1.trans k2) e2 (.cons (r1.same k2.m) r2)

/-! ### displays -/
def eTup (f : Env B → R (List D)) : Env B → R D := fun ρ => (f ρ).bind fun xs => if xs.length ≤ 1000 then .ok (.tuple xs) else .stuck
def eLst (f : Env B → R (List D)) : Env B → R D := fun ρ => (f ρ).bind fun xs => if xs.length ≤ 1000 then .ok (.list xs) else .stuck
theorem le_line {n : Nat} (h : n ≤ 1000) : n ≤ sizeLine := Nat.le_trans h (by decide)
theorem Rep.newT {K : PySem.W.Frag} {M : Hp} {p : Addr} {vs : List V} {ds : List D} (h : M p = none) (r : Reps K M vs ds) : Rep K (upd M p (.tup vs)) (.ref p) (.tuple ds) :=
  .tup (SqT.of upd_same) (r.same (upd_same_of h))
theorem Rep.newL {K : PySem.W.Frag} {M : Hp} {p : Addr} {vs : List V} {ds : List D} (h : M p = none) (r : Reps K M vs ds) : Rep K (upd M p (.lst vs)) (.ref p) (.list ds) :=
  .lst upd_same (r.same (upd_same_of h))
theorem de_tup {es : List Expr} {x1} {f : Env B → R (List D)} (h : DA X c es f) : DE X c (.Tuple es x1 pos) (eTup f) := by
  refine ⟨PE.imp (pe_tup h.pa) fun σ H Q ⟨I, M, ρ, e, q⟩ => ?_⟩
  refine ⟨I, M, ρ, e, q.bind.mono fun x hx vs H1 M1 k1 e1 r1 => ?_⟩
  split at hx
  · rename_i hl
    refine ⟨by rw [r1.length]; exact le_line hl, fun p hp => ?_⟩
    have g := Grow.alloc e1.mok (o := .tup vs) hp rfl
    exact hx _ _ _ (k1.trans (.of g)) (e1.grow g) (Rep.newT (e1.mok.free hp) r1)
  · exact hx.elim
theorem de_lst {es : List Expr} {f : Env B → R (List D)} (h : DA X c es f) : DE X c (.List es pos) (eLst f) := by
  refine ⟨PE.imp (pe_lst h.pa) fun σ H Q ⟨I, M, ρ, e, q⟩ => ?_⟩
  refine ⟨I, M, ρ, e, q.bind.mono fun x hx vs H1 M1 k1 e1 r1 => ?_⟩
  split at hx
  · rename_i hl
    refine ⟨by rw [r1.length]; exact le_line hl, fun p hp => ?_⟩
    have g := Grow.alloc e1.mok (o := .lst vs) hp rfl
    exact hx _ _ _ (k1.trans (.of g)) (e1.grow g) (Rep.newL (e1.mok.free hp) r1)
  · exact hx.elim
end
end PL

set_option Elab.async false
set_option linter.all false
set_option maxRecDepth 100000
set_option maxHeartbeats 4000000
/-! operators, comparisons, items, slices, built-in calls over data -/
namespace PL
open PySem PySem.Spec PyProof.Rows L2
section
variable {B : ObjB} {X : Cx} {c : Ctx B} {k : Nat} {pos : Pos} {a b : Expr} {f g : Env B → R D}

/-! ### arithmetic -/
def dAdd : D → D → R D
  | .int i, .int j => .ok (.int (i + j))
  | .str x, .str y => if x.length + y.length ≤ 100000 then .ok (.str (x ++ y)) else .stuck
  | .list xs, .list ys => if xs.length + ys.length ≤ 100000 then .ok (.list (xs ++ ys)) else .stuck
  | .tuple xs, .tuple ys => if xs.length + ys.length ≤ 100000 then .ok (.tuple (xs ++ ys)) else .stuck
  | _, _ => .stuck
theorem le_line5 {n : Nat} (h : n ≤ 100000) : n ≤ sizeLine := Nat.le_trans h (by decide)
abbrev rAddS : R2 := fun x y H Q => ∃ i j, x = .str i ∧ y = .str j ∧ i.length + j.length ≤ sizeLine ∧ Q (.str (i ++ j)) H
abbrev rAddD (K : PySem.W.Frag) : R2 := fun x y H Q => (rI0 (fun i j => .int (i + j))) x y H Q ∨ rAddS x y H Q ∨ rCat x y H Q ∨ rCatA K x y H Q
theorem op_addD : OpR X (binaryOp .Add) (rAddD X.K) := op_add.or (op_add_str.or (op_cat.or op_catA))
theorem ok_add {K : PySem.W.Frag} : Ok2 K (rAddD K) dAdd := by
  intro M H v w dv dw d Q k rv rw' h q
  unfold dAdd at h
  split at h
  · cases rv; cases rw'
    cases h
    exact .inl ⟨_, _, rfl, rfl, q _ _ _ (.refl k) (.int _)⟩
  · cases rv; cases rw'
    split at h
    · rename_i hl
      cases h
      exact .inr (.inl ⟨_, _, rfl, rfl, le_line5 hl, q _ _ _ (.refl k) (.str _)⟩)
    · cases h
  · cases rv with
    | lst ha ra =>
      cases rw' with
      | lst hb rb =>
        split at h
        · rename_i hl
          cases h
          refine .inr (.inr (.inl ⟨_, _, _, _, rfl, rfl, k.same _ _ ha, k.same _ _ hb, ?_, fun p hp => ?_⟩))
          · rw [ra.length, rb.length]; exact le_line5 hl
          · exact q _ _ _ (.alloc k hp rfl) (.newL (k.free hp) (ra.append rb))
        · cases h
  · cases rv with
    | tup ha ra =>
      cases rw' with
      | tup hb rb =>
        split at h
        · rename_i hl
          cases h
          have la := ra.length
          have lb := rb.length
          refine .inr (.inr (.inr ⟨_, _, _, _, rfl, rfl, sqT_same k.same ha, sqT_same k.same hb, ?_, fun e => ?_, fun _ e => ?_, fun _ _ p hp => ?_⟩))
          · rw [la, lb]; exact le_line5 hl
          · subst e
            cases ra
            exact q _ _ _ (.refl k) (.tup hb rb)
          · subst e
            cases rb
            rw [List.append_nil] at q
            exact q _ _ _ (.refl k) (.tup ha ra)
          · exact q _ _ _ (.alloc k hp rfl) (.newT (k.free hp) (ra.append rb))
        · cases h
  · cases h
theorem de_add (K : c.K = X.K) (ha : DE X c a f) (hb : DE X c b g) : DE X c (.BinOp a .Add b pos) (e2 dAdd f g) := de_2 (fun p q => pe_op op_addD p q) (K ▸ ok_add) ha hb
def dSub : D → D → R D
  | .int i, .int j => .ok (.int (i - j))
  | _, _ => .stuck
theorem ok_sub {K : PySem.W.Frag} : Ok2 K (rI0 fun i j => .int (i - j)) dSub := by
  intro M H v w dv dw d Q k rv rw' h q
  unfold dSub at h
  split at h
  · cases rv; cases rw'; cases h
    exact ⟨_, _, rfl, rfl, q _ _ _ (.refl k) (.int _)⟩
  · cases h
theorem de_sub (ha : DE X c a f) (hb : DE X c b g) : DE X c (.BinOp a .Sub b pos) (e2 dSub f g) := de_2 (fun p q => pe_op op_sub p q) ok_sub ha hb
def small64 (i : Int) : Bool := decide (-(2 ^ 64) < i) && decide (i < 2 ^ 64)
def dMul : D → D → R D
  | .int i, .int j => if (small64 i || small64 j) = true then .ok (.int (i * j)) else .stuck
  | .list xs, .int k => if 0 ≤ k ∧ k ≤ 1000 ∧ xs.length ≤ 100 then .ok (.list (List.replicate k.toNat xs).flatten) else .stuck
  | .tuple xs, .int k => if 2 ≤ k ∧ k ≤ 1000 ∧ xs.length ≤ 100 ∧ xs.isEmpty = false then .ok (.tuple (List.replicate k.toNat xs).flatten) else .stuck
  | _, _ => .stuck
theorem Reps.rep {K : PySem.W.Frag} {M : Hp} {vs : List V} {ds : List D} (h : Reps K M vs ds) : ∀ n : Nat, Reps K M (List.replicate n vs).flatten (List.replicate n ds).flatten
  | 0 => .nil
  | n + 1 => by rw [List.replicate_succ, List.replicate_succ, List.flatten_cons, List.flatten_cons]; exact h.append (Reps.rep h n)
abbrev rMulI : R2 := rI CMul fun i j => .int (i * j)
abbrev rMulD (K : PySem.W.Frag) : R2 := fun x y H Q => rMulI x y H Q ∨ rRep x y H Q ∨ rRepT K x y H Q
theorem op_mulD : OpR X (binaryOp .Mult) (rMulD X.K) := op_mul.or (op_rep.or op_repT)
theorem ok_mul {K : PySem.W.Frag} : Ok2 K (rMulD K) dMul := by
  intro M H v w dv dw d Q k rv rw' h q
  unfold dMul at h
  split at h
  · cases rv; cases rw'
    split at h
    · rename_i hs
      cases h
      refine .inl ⟨_, _, rfl, rfl, ?_, q _ _ _ (.refl k) (.int _)⟩
      simp only [small64, Bool.or_eq_true, Bool.and_eq_true, decide_eq_true_eq] at hs
      exact hs
    · cases h
  · cases rw'
    cases rv with
    | lst ha ra =>
      split at h
      · rename_i hs
        obtain ⟨h1, h2, h3⟩ := hs
        cases h
        refine .inr (.inl ⟨_, _, _, rfl, rfl, k.same _ _ ha, by omega, by omega, ?_, fun p hp => ?_⟩)
        · rw [ra.length]
          exact Nat.le_trans (Nat.mul_le_mul h3 (Int.toNat_le.mpr (by omega : _ ≤ ((1000 : Nat) : Int)))) (by decide)
        · exact q _ _ _ (.alloc k hp rfl) (.newL (k.free hp) (ra.rep _))
      · cases h
  · cases rw'
    cases rv with
    | tup ha ra =>
      split at h
      · rename_i hs
        obtain ⟨h1, h2, h3, h4⟩ := hs
        cases h
        refine .inr (.inr ⟨_, _, _, rfl, rfl, sqT_same k.same ha, ?_, h1, h2, ?_, fun p hp => ?_⟩)
        · intro e; subst e; cases ra; simp at h4
        · rw [ra.length]; omega
        · exact q _ _ _ (.alloc k hp rfl) (.newT (k.free hp) (ra.rep _))
      · cases h
  · cases h
theorem de_mul (K : c.K = X.K) (ha : DE X c a f) (hb : DE X c b g) : DE X c (.BinOp a .Mult b pos) (e2 dMul f g) := de_2 (fun p q => pe_op op_mulD p q) (K ▸ ok_mul) ha hb
def dDiv : D → D → R D
  | .int i, .int j => if 0 < j ∧ j < 1073741824 then .ok (.int (i / j)) else .stuck
  | _, _ => .stuck
def dMod : D → D → R D
  | .int i, .int j => if 0 < j then .ok (.int (i % j)) else .stuck
  | _, _ => .stuck
def dPow : D → D → R D
  | .int i, .int j => if 0 ≤ j ∧ j ≤ 1000000 ∧ i.natAbs < 2 ^ 64 then .ok (.int (i ^ j.toNat)) else .stuck
  | _, _ => .stuck
theorem ok_div {K : PySem.W.Frag} : Ok2 K (rI CDiv fun i j => .int (i / j)) dDiv := by
  intro M H v w dv dw d Q k rv rw' h q
  unfold dDiv at h
  split at h
  · cases rv; cases rw'
    split at h
    · rename_i hs
      cases h
      exact ⟨_, _, rfl, rfl, hs, q _ _ _ (.refl k) (.int _)⟩
    · cases h
  · cases h
theorem ok_mod {K : PySem.W.Frag} : Ok2 K (rI (fun _ j => 0 < j) fun i j => .int (i % j)) dMod := by
  intro M H v w dv dw d Q k rv rw' h q
  unfold dMod at h
  split at h
  · cases rv; cases rw'
    split at h
    · rename_i hs
      cases h
      exact ⟨_, _, rfl, rfl, hs, q _ _ _ (.refl k) (.int _)⟩
    · cases h
  · cases h
theorem ok_pow {K : PySem.W.Frag} : Ok2 K (rI CPow fun i j => .int (i ^ j.toNat)) dPow := by
  intro M H v w dv dw d Q k rv rw' h q
  unfold dPow at h
  split at h
  · cases rv; cases rw'
    split at h
    · rename_i hs
      cases h
      exact ⟨_, _, rfl, rfl, hs, q _ _ _ (.refl k) (.int _)⟩
    · cases h
  · cases h
theorem de_div (ha : DE X c a f) (hb : DE X c b g) : DE X c (.BinOp a .FloorDiv b pos) (e2 dDiv f g) := de_2 (fun p q => pe_op op_fdiv p q) ok_div ha hb
theorem de_mod (ha : DE X c a f) (hb : DE X c b g) : DE X c (.BinOp a .Mod b pos) (e2 dMod f g) := de_2 (fun p q => pe_op op_mod p q) ok_mod ha hb
theorem de_pow (ha : DE X c a f) (hb : DE X c b g) : DE X c (.BinOp a .Pow b pos) (e2 dPow f g) := de_2 (fun p q => pe_op op_pow p q) ok_pow ha hb
def dNeg : D → R D
  | .int i => .ok (.int (-i))
  | _ => .stuck
theorem ok_neg {K : PySem.W.Frag} : Ok1 K (rU fun i => .int (-i)) dNeg := by
  intro M H v dv d Q k rv h q
  unfold dNeg at h
  split at h
  · cases rv; cases h
    exact ⟨_, rfl, q _ _ _ (.refl k) (.int _)⟩
  · cases h
theorem de_neg (ha : DE X c a f) : DE X c (.UnaryOp .USub a pos) (e1 dNeg f) := de_1 (ta := tVar 0) (fun p => pe_un un_neg p) ok_neg ha

/-! ### comparisons -/
def dCmp (p : Int → Int → Bool) : D → D → R D
  | .int i, .int j => .ok (.bool (p i j))
  | _, _ => .stuck
theorem ok_cmp {K : PySem.W.Frag} (p : Int → Int → Bool) : Ok2 K (rI0 fun i j => .bl (p i j)) (dCmp p) := by
  intro M H v w dv dw d Q k rv rw' h q
  unfold dCmp at h
  split at h
  · cases rv; cases rw'; cases h
    exact ⟨_, _, rfl, rfl, q _ _ _ (.refl k) (.bl _)⟩
  · cases h
abbrev dLt := dCmp fun i j => decide (i < j)
abbrev dLe := dCmp fun i j => decide (i ≤ j)
abbrev dGt := dCmp fun i j => decide (j < i)
abbrev dGe := dCmp fun i j => decide (j ≤ i)
def dEq (x y : D) : R D := if (SeqAt.shaped x && SeqAt.shaped y) = true then .ok (.bool (PyData.eqv x y)) else .stuck
def dNe (x y : D) : R D := if (SeqAt.shaped x && SeqAt.shaped y) = true then .ok (.bool (!PyData.eqv x y)) else .stuck
theorem shaped_dp {K : PySem.W.Frag} {M H : Hp} (k : MOk M H) {v : V} {d : D} (s : SeqAt.shaped d = true) (r : Rep K M v d) : Dp K H v d := Dp.up k.same (r.dp (SeqAt.canLay_of_shaped s))
theorem ok_eq {K : PySem.W.Frag} : Ok2 K (rEqD K) dEq := by
  intro M H v w dv dw d Q k rv rw' h q
  unfold dEq at h
  split at h
  · rename_i hs
    obtain ⟨s1, s2⟩ := Bool.and_eq_true_iff.mp hs
    cases h
    exact ⟨_, _, shaped_dp k s1 rv, shaped_dp k s2 rw', s1, s2, q _ _ _ (.refl k) (.bl _)⟩
  · cases h
theorem ok_ne {K : PySem.W.Frag} : Ok2 K (rNeD K) dNe := by
  intro M H v w dv dw d Q k rv rw' h q
  unfold dNe at h
  split at h
  · rename_i hs
    obtain ⟨s1, s2⟩ := Bool.and_eq_true_iff.mp hs
    cases h
    exact ⟨_, _, shaped_dp k s1 rv, shaped_dp k s2 rw', s1, s2, q _ _ _ (.refl k) (.bl _)⟩
  · cases h
/-- in, over a list or a tuple -/
def dIn : D → D → R D
  | x, .list ys => if (SeqAt.shaped x && SeqAt.shaped (.list ys)) = true then .ok (.bool (ys.any fun z => PyData.eqv z x)) else .stuck
  | x, .tuple ys => if (SeqAt.shaped x && SeqAt.shaped (.tuple ys)) = true then .ok (.bool (ys.any fun z => PyData.eqv z x)) else .stuck
  | _, _ => .stuck
def dNotIn : D → D → R D
  | x, .list ys => if (SeqAt.shaped x && SeqAt.shaped (.list ys)) = true then .ok (.bool (!ys.any fun z => PyData.eqv z x)) else .stuck
  | x, .tuple ys => if (SeqAt.shaped x && SeqAt.shaped (.tuple ys)) = true then .ok (.bool (!ys.any fun z => PyData.eqv z x)) else .stuck
  | _, _ => .stuck
def rInT (K : PySem.W.Frag) : R2 := fun x y H Q => ∃ d ds, Dp K H x d ∧ Dp K H y (.tuple ds) ∧ SeqAt.shaped d = true ∧ SeqAt.shaped (.tuple ds) = true ∧ Q (.bl (ds.any fun z => PyData.eqv z d)) H
def rNotInT (K : PySem.W.Frag) : R2 := fun x y H Q => ∃ d ds, Dp K H x d ∧ Dp K H y (.tuple ds) ∧ SeqAt.shaped d = true ∧ SeqAt.shaped (.tuple ds) = true ∧ Q (.bl (!ds.any fun z => PyData.eqv z d)) H
theorem op_inT (hu : X.A.units + 65 < cLine) : OpR X (compareOp .In) (rInT X.K) := by
  intro pins s σ H x y v u Q I rx ry h
  obtain ⟨d, ds, hd, he, sd, se, q⟩ := h
  obtain ⟨as, r1⟩ := Dp.reads I d x v hd rx
  obtain ⟨bs, r2⟩ := Dp.reads I (.tuple ds) y u he ry
  exact SeqAt.in_tuple_reads r2 r1 (SeqAt.canLay_of_shaped se) (SeqAt.canLay_of_shaped sd) (room_in_shaped sd hu) ⟨.bl _, H, I, rfl, q⟩
theorem op_notInT (hu : X.A.units + 65 < cLine) : OpR X (compareOp .NotIn) (rNotInT X.K) := by
  intro pins s σ H x y v u Q I rx ry h
  obtain ⟨d, ds, hd, he, sd, se, q⟩ := h
  obtain ⟨as, r1⟩ := Dp.reads I d x v hd rx
  obtain ⟨bs, r2⟩ := Dp.reads I (.tuple ds) y u he ry
  exact SeqAt.notIn_tuple_reads r2 r1 (SeqAt.canLay_of_shaped se) (SeqAt.canLay_of_shaped sd) (room_in_shaped sd hu) ⟨.bl _, H, I, rfl, q⟩
abbrev rInA (K : PySem.W.Frag) : R2 := fun x y H Q => rInD K x y H Q ∨ rInT K x y H Q
abbrev rNotInA (K : PySem.W.Frag) : R2 := fun x y H Q => rNotInD K x y H Q ∨ rNotInT K x y H Q
theorem ok_in {K : PySem.W.Frag} : Ok2 K (rInA K) dIn := by
  intro M H v w dv dw d Q k rv rw' h q
  unfold dIn at h
  split at h
  · split at h
    · rename_i hs
      obtain ⟨s1, s2⟩ := Bool.and_eq_true_iff.mp hs
      cases h
      exact .inl ⟨_, _, shaped_dp k s1 rv, shaped_dp k s2 rw', s1, s2, q _ _ _ (.refl k) (.bl _)⟩
    · cases h
  · split at h
    · rename_i hs
      obtain ⟨s1, s2⟩ := Bool.and_eq_true_iff.mp hs
      cases h
      exact .inr ⟨_, _, shaped_dp k s1 rv, shaped_dp k s2 rw', s1, s2, q _ _ _ (.refl k) (.bl _)⟩
    · cases h
  · cases h
theorem ok_notIn {K : PySem.W.Frag} : Ok2 K (rNotInA K) dNotIn := by
  intro M H v w dv dw d Q k rv rw' h q
  unfold dNotIn at h
  split at h
  · split at h
    · rename_i hs
      obtain ⟨s1, s2⟩ := Bool.and_eq_true_iff.mp hs
      cases h
      exact .inl ⟨_, _, shaped_dp k s1 rv, shaped_dp k s2 rw', s1, s2, q _ _ _ (.refl k) (.bl _)⟩
    · cases h
  · split at h
    · rename_i hs
      obtain ⟨s1, s2⟩ := Bool.and_eq_true_iff.mp hs
      cases h
      exact .inr ⟨_, _, shaped_dp k s1 rv, shaped_dp k s2 rw', s1, s2, q _ _ _ (.refl k) (.bl _)⟩
    · cases h
  · cases h
/-- is, is not: None, truth values -/
def dIs : D → D → R D
  | x, .none => .ok (.bool (match x with | .none => true | _ => false))
  | .bool x, .bool y => .ok (.bool (decide (x = y)))
  | _, _ => .stuck
def dIsNot : D → D → R D
  | x, .none => .ok (.bool (match x with | .none => false | _ => true))
  | .bool x, .bool y => .ok (.bool (!decide (x = y)))
  | _, _ => .stuck
abbrev rIsNon : R2 := fun x y H Q => y = .non ∧ Q (.bl (decide (x = .non))) H
abbrev rNotNon : R2 := fun x y H Q => y = .non ∧ Q (.bl (!decide (x = .non))) H
abbrev rIsD : R2 := fun x y H Q => rIsNon x y H Q ∨ rIsB x y H Q
abbrev rIsNotD : R2 := fun x y H Q => rNotNon x y H Q ∨ rNotB x y H Q
theorem ok_is {K : PySem.W.Frag} : Ok2 K rIsD dIs := by
  intro M H v w dv dw d Q k rv rw' h q
  unfold dIs at h
  split at h
  · cases h
    cases rw'
    refine .inl ⟨rfl, ?_⟩
    cases rv <;> exact q _ _ _ (.refl k) (.bl _)
  · cases h
    cases rv; cases rw'
    exact .inr ⟨_, _, rfl, rfl, q _ _ _ (.refl k) (.bl _)⟩
  · cases h
theorem ok_isNot {K : PySem.W.Frag} : Ok2 K rIsNotD dIsNot := by
  intro M H v w dv dw d Q k rv rw' h q
  unfold dIsNot at h
  split at h
  · cases h
    cases rw'
    refine .inl ⟨rfl, ?_⟩
    cases rv <;> exact q _ _ _ (.refl k) (.bl _)
  · cases h
    cases rv; cases rw'
    exact .inr ⟨_, _, rfl, rfl, q _ _ _ (.refl k) (.bl _)⟩
  · cases h
/-- a comparison's operator, its function -/
structure CmpD (X : Cx) (op : CmpOp) (F : D → D → R D) where
  r : R2
  op : OpR X (compareOp op) r
  ok : Ok2 X.K r F
end
section
variable {X : Cx} {k : Nat}
theorem units65 (h : Room k X.A) : X.A.units + 65 < cLine := by have := h.un; omega
theorem units64 (h : Room k X.A) : X.A.units + 64 < cLine := by have := h.un; omega
def cLt : CmpD X .Lt dLt := ⟨_, op_lt, ok_cmp _⟩
def cLe : CmpD X .LtE dLe := ⟨_, op_le, ok_cmp _⟩
def cGt : CmpD X .Gt dGt := ⟨_, op_gt, ok_cmp _⟩
def cGe : CmpD X .GtE dGe := ⟨_, op_ge, ok_cmp _⟩
def cEq (h : Room k X.A) : CmpD X .Eq dEq := ⟨_, op_eqD (units64 h), ok_eq⟩
def cNe (h : Room k X.A) : CmpD X .NotEq dNe := ⟨_, op_neD (units64 h), ok_ne⟩
def cIn (h : Room k X.A) : CmpD X .In dIn := ⟨_, (op_inD (units65 h)).or (op_inT (units65 h)), ok_in⟩
def cNotIn (h : Room k X.A) : CmpD X .NotIn dNotIn := ⟨_, (op_notInD (units65 h)).or (op_notInT (units65 h)), ok_notIn⟩
def cIs : CmpD X .Is dIs := ⟨_, op_isN.or op_isBl, ok_is⟩
def cIsNot : CmpD X .IsNot dIsNot := ⟨_, op_notN.or op_notBl, ok_isNot⟩
variable {B : ObjB} {c : Ctx B} {pos : Pos} {a b d : Expr} {f g h : Env B → R D} {op op' : CmpOp} {F F' : D → D → R D}
theorem de_cmp (C : CmpD X op F) (K : c.K = X.K) (ha : DE X c a f) (hb : DE X c b g) (hm : behindInMarks op b = false) : DE X c (.Compare a [op] [b] pos) (e2 F f g) :=
  de_2 (fun p q => pe_cmpR C.op p q hm) (K ▸ C.ok) ha hb
/-- a < b < d -/
def eChain (F F' : D → D → R D) (f g h : Env B → R D) : Env B → R D := fun ρ => (f ρ).bind fun x => (g ρ).bind fun y => (noE (F x y)).bind fun z => match z with
  | .bool true => (h ρ).bind fun w => noE (F' y w)
  | .bool false => .ok (.bool false)
  | _ => .stuck
/-- F gives truth values alone -/
def TruthV (r : R2) : Prop := ∀ x y H (Q : VK), r x y H Q → r x y H fun v H' => Q v H'
end
end PL

set_option Elab.async false
set_option linter.all false
set_option maxRecDepth 100000
set_option maxHeartbeats 4000000
/-! tests, chains, items, slices, built-in calls -/
namespace PL
open PySem PySem.Spec PyProof.Rows L2
section
variable {B : ObjB} {X : Cx} {c : Ctx B} {k : Nat} {pos : Pos} {a b d e : Expr} {f g h : Env B → R D} {op op' : CmpOp} {F F' : D → D → R D}

/-! ### truth values -/
def toB : D → R Bool
  | .bool b => .ok b
  | _ => .stuck
def tV (f : Env B → R D) : Env B → R Bool := fun ρ => (f ρ).bind toB
theorem tV_imp {σ : L2.St} {H : Hp} {Q : Bool → Hp → Prop} (h : tDT c (tV f) σ H Q) : tD c f σ H fun x H' => ∃ k, x = .bl k ∧ Q k H' := by
  obtain ⟨I, M, ρ, e, q⟩ := h
  refine ⟨I, M, ρ, e, q.bind.mono fun x hx v H1 M1 k1 e1 r1 => ?_⟩
  unfold toB at hx
  split at hx
  · cases r1
    exact ⟨_, rfl, hx H1 M1 k1 e1⟩
  · exact hx.elim
theorem dt_val (h : DE X c e f) (he : ∀ whole, isTrue e X.env whole = (do let v ← whole; standAt e.pos; holding [v] (truthy v)) := by intro _; rfl) : DT X c e (tV f) :=
  ⟨PT.imp (pt_val h.pe he) fun σ H Q q => tV_imp q⟩
theorem imp2 {r : R2} (hF : Ok2 c.K r F) {σ : L2.St} {H : Hp} {Q : VK} (q : tD c (e2 F f g) σ H Q) : tOp r (tD c f) (tD c g) σ H Q := by
  obtain ⟨I, M, ρ, e, q⟩ := q
  refine ⟨I, M, ρ, e, q.bind.mono fun x hx v H1 M1 k1 e1 r1 => ?_⟩
  refine ⟨I, M1, ρ, e1, hx.bind.mono fun y hy u H2 M2 k2 e2 r2 => ?_⟩
  obtain ⟨d, hd, hp⟩ := hy.noE
  exact hF M2 H2 v u x y d Q e2.mok (r1.same k2.m) r2 hd (post_grow hp (k1.trans k2) e2)
theorem dt_cmp (C : CmpD X op F) (K : c.K = X.K) (ha : DE X c a f) (hb : DE X c b g) (hm : behindInMarks op b = false) : DT X c (.Compare a [op] [b] pos) (tV (e2 F f g)) :=
  ⟨PT.imp (pt_cmpR C.op ha.pe hb.pe hm) fun σ H Q q => imp2 (K ▸ C.ok) (tV_imp q)⟩
theorem impChain {r r' : R2} (hF : Ok2 c.K r F) (hF' : Ok2 c.K r' F') {σ : L2.St} {H : Hp} {Q : VK} (q : tD c (eChain F F' f g h) σ H Q) : tChain r r' (tD c f) (tD c g) (tD c h) σ H Q := by
  obtain ⟨I, M, ρ, e, q⟩ := q
  refine ⟨I, M, ρ, e, q.bind.mono fun x hx v H1 M1 k1 e1 r1 => ?_⟩
  refine ⟨I, M1, ρ, e1, hx.bind.mono fun y hy u H2 M2 k2 e2 r2 => ?_⟩
  obtain ⟨z, hz, hp⟩ := hy.bind.noE
  refine hF M2 H2 v u x y z _ e2.mok (r1.same k2.m) r2 hz fun w H3 M3 g3 r3 => ?_
  have e3 := e2.grow g3
  have k3 : Step I.b M2 H2 M3 H3 := .of g3
  split at hp
  · cases r3
    refine ⟨true, rfl, ?_⟩
    rw [if_pos rfl]
    refine ⟨I, M3, ρ, e3, hp.bind.mono fun w hw v4 H4 M4 k4 e4 r4 => ?_⟩
    obtain ⟨d, hd, hp⟩ := hw.noE
    exact hF' M4 H4 u v4 y w d Q e4.mok (r2.same (g3.m.trans k4.m)) r4 hd (post_grow hp (((k1.trans k2).trans k3).trans k4) e4)
  · cases r3
    refine ⟨false, rfl, ?_⟩
    rw [if_neg Bool.false_ne_true]
    exact hp _ H3 M3 ((k1.trans k2).trans k3) e3 (.bl _)
  · exact hp.elim
theorem de_chain (C : CmpD X op F) (C' : CmpD X op' F') (K : c.K = X.K) (ha : DE X c a f) (hb : DE X c b g) (hc : DE X c d h) (hm : lastMarks [op, op'] [b, d] = false := by with_unfolding_all rfl) :
    DE X c (.Compare a [op, op'] [b, d] pos) (eChain F F' f g h) := ⟨PE.imp (pe_chain C.op C'.op ha.pe hb.pe hc.pe hm) fun σ H Q q => impChain (K ▸ C.ok) (K ▸ C'.ok) q⟩
theorem dt_chain (C : CmpD X op F) (C' : CmpD X op' F') (K : c.K = X.K) (ha : DE X c a f) (hb : DE X c b g) (hc : DE X c d h) (hm : lastMarks [op, op'] [b, d] = false := by with_unfolding_all rfl) :
    DT X c (.Compare a [op, op'] [b, d] pos) (tV (eChain F F' f g h)) := ⟨PT.imp (pt_chain C.op C'.op ha.pe hb.pe hc.pe hm) fun σ H Q q => impChain (K ▸ C.ok) (K ▸ C'.ok) (tV_imp q)⟩
/-- and, or, not as tests -/
def tAndD (f g : Env B → R Bool) : Env B → R Bool := fun ρ => (f ρ).bind fun x => if x = true then g ρ else .ok false
def tOrD (f g : Env B → R Bool) : Env B → R Bool := fun ρ => (f ρ).bind fun x => if x = true then .ok true else g ρ
def tNotD (f : Env B → R Bool) : Env B → R Bool := fun ρ => (f ρ).bind fun x => .ok (!x)
variable {u v : Env B → R Bool} {rest : List Expr}
theorem dw_and1 (h : DT X c a u) : DW X c (.BoolOp .And [a] pos) u := ⟨pw_and1 h.pt⟩
theorem dw_or1 (h : DT X c a u) : DW X c (.BoolOp .Or [a] pos) u := ⟨pw_or1 h.pt⟩
theorem dw_and (h : DT X c a u) (h' : DW X c (.BoolOp .And (b :: rest) pos) v) : DW X c (.BoolOp .And (a :: b :: rest) pos) (tAndD u v) := by
  refine ⟨PW.imp (pw_and h.pt h'.pw) fun σ H Q ⟨I, M, ρ, e, q⟩ => ?_⟩
  refine ⟨I, M, ρ, e, q.bind.mono fun x hx H1 M1 k1 e1 => ?_⟩
  cases x with
  | true => exact ⟨I, M1, ρ, e1, RD.mono hx fun y hy H2 M2 k2 e2 => hy H2 M2 (k1.trans k2) e2⟩
  | false => exact hx H1 M1 k1 e1
theorem dw_or (h : DT X c a u) (h' : DW X c (.BoolOp .Or (b :: rest) pos) v) : DW X c (.BoolOp .Or (a :: b :: rest) pos) (tOrD u v) := by
  refine ⟨PW.imp (pw_or h.pt h'.pw) fun σ H Q ⟨I, M, ρ, e, q⟩ => ?_⟩
  refine ⟨I, M, ρ, e, q.bind.mono fun x hx H1 M1 k1 e1 => ?_⟩
  cases x with
  | true => exact hx H1 M1 k1 e1
  | false => exact ⟨I, M1, ρ, e1, RD.mono hx fun y hy H2 M2 k2 e2 => hy H2 M2 (k1.trans k2) e2⟩
theorem dt_w (h : DW X c e u) : DT X c e u := ⟨h.pw.pt⟩
theorem dt_not (h : DT X c a u) : DT X c (.UnaryOp .Not a pos) (tNotD u) := by
  refine ⟨PT.imp (pt_not h.pt) fun σ H Q ⟨I, M, ρ, e, q⟩ => ?_⟩
  exact ⟨I, M, ρ, e, q.bind.mono fun x hx H1 M1 k1 e1 => hx H1 M1 k1 e1⟩
/-- .. as values -/
def eAnd (f g : Env B → R D) : Env B → R D := fun ρ => (f ρ).bind fun x => (toB x).bind fun x => if x = true then g ρ else .ok (.bool false)
def eOr (f g : Env B → R D) : Env B → R D := fun ρ => (f ρ).bind fun x => (toB x).bind fun x => if x = true then .ok (.bool true) else g ρ
def eNot (f : Env B → R D) : Env B → R D := fun ρ => (f ρ).bind fun x => (toB x).bind fun x => .ok (.bool !x)
theorem toB_rd {I : Ent} {x : D} {P : Bool → Prop} (h : RD c I (toB x) P) : ∃ b, x = .bool b ∧ P b := by
  unfold toB at h
  split at h
  · exact ⟨_, rfl, h⟩
  · exact h.elim
theorem de_one {op} (h : DE X c a f) : DE X c (.BoolOp op [a] pos) f := ⟨pe_one h.pe⟩
theorem de_and (ha : DE X c a f) (hb : DE X c (.BoolOp .And (b :: rest) pos) g) : DE X c (.BoolOp .And (a :: b :: rest) pos) (eAnd f g) := by
  refine ⟨PE.imp (pe_and ha.pe hb.pe) fun σ H Q ⟨I, M, ρ, e, q⟩ => ?_⟩
  refine ⟨I, M, ρ, e, q.bind.mono fun x hx v H1 M1 k1 e1 r1 => ?_⟩
  obtain ⟨b, rfl, hb⟩ := toB_rd hx.bind
  cases r1
  refine ⟨b, rfl, ?_⟩
  cases b with
  | true => exact ⟨I, M1, ρ, e1, RD.mono hb fun y hy v2 H2 M2 k2 e2 r2 => hy v2 H2 M2 (k1.trans k2) e2 r2⟩
  | false => exact hb _ H1 M1 k1 e1 (.bl _)
theorem de_or (ha : DE X c a f) (hb : DE X c (.BoolOp .Or (b :: rest) pos) g) : DE X c (.BoolOp .Or (a :: b :: rest) pos) (eOr f g) := by
  refine ⟨PE.imp (pe_or ha.pe hb.pe) fun σ H Q ⟨I, M, ρ, e, q⟩ => ?_⟩
  refine ⟨I, M, ρ, e, q.bind.mono fun x hx v H1 M1 k1 e1 r1 => ?_⟩
  obtain ⟨b, rfl, hb⟩ := toB_rd hx.bind
  cases r1
  refine ⟨b, rfl, ?_⟩
  cases b with
  | true => exact hb _ H1 M1 k1 e1 (.bl _)
  | false => exact ⟨I, M1, ρ, e1, RD.mono hb fun y hy v2 H2 M2 k2 e2 r2 => hy v2 H2 M2 (k1.trans k2) e2 r2⟩
theorem de_not (ha : DE X c a f) : DE X c (.UnaryOp .Not a pos) (eNot f) := by
  refine ⟨PE.imp (pe_not ha.pe) fun σ H Q ⟨I, M, ρ, e, q⟩ => ?_⟩
  refine ⟨I, M, ρ, e, q.bind.mono fun x hx v H1 M1 k1 e1 r1 => ?_⟩
  obtain ⟨b, rfl, hb⟩ := toB_rd hx.bind
  cases r1
  exact ⟨b, rfl, hb _ H1 M1 k1 e1 (.bl _)⟩
def eIf (t : Env B → R Bool) (f g : Env B → R D) : Env B → R D := fun ρ => (t ρ).bind fun x => if x = true then f ρ else g ρ
theorem de_if {t : Expr} (ht : DT X c t u) (ha : DE X c a f) (hb : DE X c b g) : DE X c (.IfExp t a b pos) (eIf u f g) := by
  refine ⟨PE.imp (pe_ifExp ht.pt ha.pe hb.pe) fun σ H Q ⟨I, M, ρ, e, q⟩ => ?_⟩
  refine ⟨I, M, ρ, e, q.bind.mono fun x hx H1 M1 k1 e1 => ?_⟩
  cases x with
  | true => exact ⟨I, M1, ρ, e1, RD.mono hx fun y hy v2 H2 M2 k2 e2 r2 => hy v2 H2 M2 (k1.trans k2) e2 r2⟩
  | false => exact ⟨I, M1, ρ, e1, RD.mono hx fun y hy v2 H2 M2 k2 e2 r2 => hy v2 H2 M2 (k1.trans k2) e2 r2⟩

/-! ### items -/
/-- the items of what is walked or read by place -/
def itemsOf : D → Option (List D)
  | .list xs => some xs
  | .tuple xs => some xs
  | .dict [(.none, .list xs)] => some xs
  | _ => none
def dIx : D → D → R D
  | x, .int i => match itemsOf x with
    | some xs => match atI xs i with
      | some y => .ok y
      | none => .stuck
    | none => .stuck
  | _, _ => .stuck
theorem Reps.atI {K : PySem.W.Frag} {M : Hp} {vs : List V} {ds : List D} (h : Reps K M vs ds) {i : Int} {y : D} (e : L2.atI ds i = some y) : ∃ v, L2.atI vs i = some v ∧ Rep K M v y := by
  unfold L2.atI at e ⊢
  rw [h.length]
  cases q : ixN ds.length i with
  | none => rw [q] at e; cases e
  | some j =>
    rw [q] at e
    exact h.get e
theorem Rep.items {K : PySem.W.Frag} {M H : Hp} (k : MOk M H) {v : V} {x : D} {xs : List D} (r : Rep K M v x) (e : itemsOf x = some xs) : ∃ p vs, v = .ref p ∧ (SqL K H p vs ∨ SqT K H p vs) ∧ Reps K M vs xs := by
  unfold itemsOf at e
  split at e
  · cases e
    cases r with
    | lst h q => exact ⟨_, _, rfl, .inl (SqL.of (k.same _ _ h)), q⟩
  · cases e
    cases r with
    | tup h q => exact ⟨_, _, rfl, .inr (sqT_same k.same h), q⟩
  · cases e
    cases r with
    | scr h q => exact ⟨_, _, rfl, .inl (k.same.seq h), q⟩
  · cases e
abbrev rIxLT (K : PySem.W.Frag) : R2 := fun x y H Q => rIxL K x y H Q ∨ rIxT K x y H Q
theorem ix_lt : IxR X (rIxLT X.K) := ix_list.or ix_tup
theorem ok_ix {K : PySem.W.Frag} : Ok2 K (rIxLT K) dIx := by
  intro M H v w dv dw d Q k rv rw' h q
  unfold dIx at h
  split at h
  · split at h
    · rename_i xs hx
      split at h
      · rename_i y hy
        cases h
        cases rw'
        obtain ⟨p, vs, rfl, hs, r⟩ := rv.items k hx
        obtain ⟨u, hu, ru⟩ := r.atI hy
        rcases hs with hs | hs
        · exact .inl ⟨_, _, _, _, rfl, rfl, hs, hu, q _ _ _ (.refl k) ru⟩
        · exact .inr ⟨_, _, _, _, rfl, rfl, hs, hu, q _ _ _ (.refl k) ru⟩
      · cases h
    · cases h
  · cases h
theorem de_ix (K : c.K = X.K) (ha : DE X c a f) (hb : DE X c b g) (hs : PlainIx b := by intro _ _; rfl) : DE X c (.Subscript a b pos) (e2 dIx f g) :=
  de_2 (fun p q => pe_ix ix_lt p q hs) (K ▸ ok_ix) ha hb

/-! ### slices -/
def tDO (c : Ctx B) (f : Env B → R (Option Int)) : TO := fun σ H Q => ∃ I M ρ, EnvR c.K I M H σ ρ ∧ RD c I (f ρ) fun o => ∀ H' M', Step I.b M H M' H' → EnvR c.K I M' H' σ ρ → Q o H'
structure DO (X : Cx) (c : Ctx B) (e : Option Expr) (f : Env B → R (Option Int)) : Prop where
  po : PO X e (tDO c f)
theorem PO.imp {e : Option Expr} {t u : TO} (h : PO X e t) (k : ∀ σ H Q, u σ H Q → t σ H Q) : PO X e u := ⟨fun pins s σ H Q I q => h.run pins s σ H Q I (k σ H Q q)⟩
def oNone : Env B → R (Option Int) := fun _ => .ok none
def oSome (f : Env B → R D) : Env B → R (Option Int) := fun ρ => (f ρ).bind fun x => match x with
  | .int i => .ok (some i)
  | _ => .stuck
theorem do_none : DO X c none (oNone : Env B → R (Option Int)) := ⟨PO.imp po_none fun σ H Q ⟨I, M, ρ, e, q⟩ => q H M .refl e⟩
theorem do_some (h : DE X c e f) : DO X c (some e) (oSome f) := by
  refine ⟨PO.imp (po_some h.pe) fun σ H Q ⟨I, M, ρ, e, q⟩ => ?_⟩
  refine ⟨I, M, ρ, e, q.bind.mono fun x hx v H1 M1 k1 e1 r1 => ?_⟩
  split at hx
  · cases r1
    exact ⟨_, rfl, hx H1 M1 k1 e1⟩
  · exact hx.elim
def cutD (xs : List D) (lo hi : Option Int) : List D := (xs.drop (HT.sIx xs.length 0 lo)).take (HT.sIx xs.length xs.length hi - HT.sIx xs.length 0 lo)
theorem Reps.cut {K : PySem.W.Frag} {M : Hp} {vs : List V} {ds : List D} (h : Reps K M vs ds) (lo hi : Option Int) : Reps K M (cutV vs lo hi) (cutD ds lo hi) := by
  unfold cutV cutD
  rw [h.length]
  exact (h.drop _).take _
theorem cutD_whole {xs : List D} {lo hi : Option Int} (h : HT.sIx xs.length 0 lo = 0 ∧ HT.sIx xs.length xs.length hi = xs.length) : cutD xs lo hi = xs := by
  unfold cutD
  rw [h.1, h.2]
  simp
def dSl (x : D) (lo hi : Option Int) : R D := match x with
  | .list xs => .ok (.list (cutD xs lo hi))
  | .tuple xs => .ok (.tuple (cutD xs lo hi))
  | _ => .stuck
def eSl (f : Env B → R D) (l u : Env B → R (Option Int)) : Env B → R D := fun ρ => (f ρ).bind fun x => (l ρ).bind fun lo => (u ρ).bind fun hi => noE (dSl x lo hi)
abbrev rSlA2 (K : PySem.W.Frag) : V → Option Int → Option Int → Hp → VK → Prop := fun x lo hi H Q => rSlL K x lo hi H Q ∨ rSlA K x lo hi H Q
theorem sl_lt : SlR X (rSlA2 X.K) := sl_list.or sl_tupA
theorem de_sl {lo hi : Option Expr} {l u : Env B → R (Option Int)} {p2 : Pos} (K : c.K = X.K) (he : DE X c e f) (hl : DO X c lo l) (hu : DO X c hi u) : DE X c (.Subscript e (.Slice lo hi none p2) pos) (eSl f l u) := by
  refine ⟨PE.imp (pe_slice sl_lt he.pe hl.po hu.po) fun σ H Q ⟨I, M, ρ, e, q⟩ => ?_⟩
  refine ⟨I, M, ρ, e, q.bind.mono fun x hx v H1 M1 k1 e1 r1 => ?_⟩
  refine ⟨I, M1, ρ, e1, hx.bind.mono fun lo hx H2 M2 k2 e2 => ?_⟩
  refine ⟨I, M2, ρ, e2, hx.bind.mono fun hi hx H3 M3 k3 e3 => ?_⟩
  obtain ⟨d, hd, hp⟩ := hx.noE
  have r3 := r1.same (k2.m.trans k3.m)
  have kk := (k1.trans k2).trans k3
  have fin := post_grow hp kk e3
  unfold dSl at hd
  split at hd
  · cases hd
    cases r3 with
    | lst h r =>
      exact .inl ⟨_, _, rfl, SqL.of (e3.mok.same _ _ h), fun p hp => fin _ _ _ (.alloc e3.mok hp rfl) (.newL (e3.mok.free hp) (r.cut lo hi))⟩
  · cases hd
    cases r3 with
    | tup h r =>
      refine .inr ⟨_, _, rfl, K ▸ sqT_same e3.mok.same h, fun w => ?_, fun _ p hp => fin _ _ _ (.alloc e3.mok hp rfl) (.newT (e3.mok.free hp) (r.cut lo hi))⟩
      rw [r.length] at w
      have ew := cutD_whole w
      rw [ew] at fin
      exact fin _ _ _ (.refl e3.mok) (.tup h r)
  · cases hd
/-- xs[::-1] of a list -/
def dRev : D → R D
  | .list xs => .ok (.list xs.reverse)
  | _ => .stuck
theorem de_rev {j : Nat} {p1 p2 p3 : Pos} (he : DE X c e f) : DE X c (.Subscript e (.Slice none none (some (.UnaryOp .USub (.Constant (.int 1) j p1) p2)) p3) pos) (e1 dRev f) := by
  refine ⟨PE.imp (pe_revL he.pe) fun σ H Q ⟨I, M, ρ, e, q⟩ => ?_⟩
  refine ⟨I, M, ρ, e, q.bind.mono fun x hx v H1 M1 k1 e1 r1 => ?_⟩
  obtain ⟨d, hd, hp⟩ := hx.noE
  unfold dRev at hd
  split at hd
  · cases hd
    cases r1 with
    | lst h r => exact ⟨_, _, rfl, SqL.of (e1.mok.same _ _ h), fun p hq => post_grow hp k1 e1 _ _ _ (.alloc e1.mok hq rfl) (.newL (e1.mok.free hq) r.reverse)⟩
  · cases hd

/-! ### built-in calls -/
def dLen : List D → R D
  | [x] => match itemsOf x with
    | some xs => .ok (.int xs.length)
    | none => .stuck
  | _ => .stuck
theorem ok_len {K : PySem.W.Frag} : OkA K (fun xs H Q => ∃ x n, xs = [x] ∧ LenV K x H n ∧ Q (.int n) H) dLen := by
  intro M H vs ds d Q k r h q
  unfold dLen at h
  split at h
  · split at h
    · rename_i xs hx
      cases h
      cases r with
      | cons r1 r2 =>
        cases r2
        obtain ⟨p, vs, rfl, hs, rr⟩ := r1.items k hx
        refine ⟨_, vs.length, rfl, ?_, ?_⟩
        · rcases hs with hs | hs
          · exact .inl ⟨_, hs, rfl⟩
          · exact .inr ⟨_, hs, rfl⟩
        · rw [rr.length]
          exact q _ _ _ (.refl k) (.int _)
    · cases h
  · cases h
theorem de_len {es : List Expr} {f : Env B → R (List D)} {p : Pos} (K : c.K = X.K) (hm : X.mg "len" = none) (ha : DA X c (e :: es) f) (hg : Gl X "len" := by rfl) (he : starEach (e :: es) X.env = (false, eval e X.env) :: starEach es X.env := by rfl) (hpl : (backTo pos (starEach es X.env)).any (·.1) = false := by rfl) :
    DE X c (.Call (.Name "len" p) (e :: es) [] pos) (eA dLen f) := de_A (fun q => pe_callB call_len hg hm PySem.boot_len q (he := he) (hpl := hpl)) (K ▸ ok_len) ha
/-- list(x), tuple(x) -/
def dList : List D → R D
  | [x] => match itemsOf x with
    | some xs => .ok (.list xs)
    | none => .stuck
  | _ => .stuck
def dTuple : List D → R D
  | [x] => match itemsOf x with
    | some xs => .ok (.tuple xs)
    | none => .stuck
  | _ => .stuck
theorem ok_list {K : PySem.W.Frag} : OkA K (fun xs H Q => ∃ p ys, xs = [.ref p] ∧ (SqL K H p ys ∨ SqT K H p ys) ∧ ∀ l, H l = none → Q (.ref l) (upd H l (.lst ys))) dList := by
  intro M H vs ds d Q k r h q
  unfold dList at h
  split at h
  · split at h
    · rename_i xs hx
      cases h
      cases r with
      | cons r1 r2 =>
        cases r2
        obtain ⟨p, vs, rfl, hs, rr⟩ := r1.items k hx
        exact ⟨_, _, rfl, hs, fun l hl => q _ _ _ (.alloc k hl rfl) (.newL (k.free hl) rr)⟩
    · cases h
  · cases h
theorem ok_tuple {K : PySem.W.Frag} : OkA K (fun xs H Q => ∃ p ys, xs = [.ref p] ∧ ((SqL K H p ys ∧ ∀ l, H l = none → Q (.ref l) (upd H l (.tup ys))) ∨ (SqT K H p ys ∧ Q (.ref p) H))) dTuple := by
  intro M H vs ds d Q k r h q
  unfold dTuple at h
  split at h
  · split at h
    · rename_i xs hx
      cases h
      cases r with
      | cons r1 r2 =>
        cases r2
        cases r1 with
        | tup h r =>
          cases hx
          exact ⟨_, _, rfl, .inr ⟨sqT_same k.same h, q _ _ _ (.refl k) (.tup h r)⟩⟩
        | lst h r =>
          cases hx
          exact ⟨_, _, rfl, .inl ⟨SqL.of (k.same _ _ h), fun l hl => q _ _ _ (.alloc k hl rfl) (.newT (k.free hl) r)⟩⟩
        | scr h r =>
          cases hx
          exact ⟨_, _, rfl, .inl ⟨k.same.seq h, fun l hl => q _ _ _ (.alloc k hl rfl) (.newT (k.free hl) r)⟩⟩
        | _ => cases hx
    · cases h
  · cases h
theorem boot_listT : bootBuiltins "list" = some (.type "list") := by decide +kernel
theorem boot_tupleT : bootBuiltins "tuple" = some (.type "tuple") := by decide +kernel
theorem boot_intT : bootBuiltins "int" = some (.type "int") := by decide +kernel
theorem boot_boolT : bootBuiltins "bool" = some (.type "bool") := by decide +kernel
theorem boot_strT : bootBuiltins "str" = some (.type "str") := by decide +kernel
theorem boot_sumB : bootBuiltins "sum" = some (.builtin "sum") := by decide +kernel
theorem boot_maxB : bootBuiltins "max" = some (.builtin "max") := by decide +kernel
theorem boot_minB : bootBuiltins "min" = some (.builtin "min") := by decide +kernel
theorem boot_allB : bootBuiltins "all" = some (.builtin "all") := by decide +kernel
theorem boot_isiB : bootBuiltins "isinstance" = some (.builtin "isinstance") := by decide +kernel
theorem de_list {es : List Expr} {f : Env B → R (List D)} {p : Pos} (K : c.K = X.K) (hm : X.mg "list" = none) (ha : DA X c (e :: es) f) (hg : Gl X "list" := by rfl) (he : starEach (e :: es) X.env = (false, eval e X.env) :: starEach es X.env := by rfl) (hpl : (backTo pos (starEach es X.env)).any (·.1) = false := by rfl) :
    DE X c (.Call (.Name "list" p) (e :: es) [] pos) (eA dList f) := de_A (fun q => pe_callTy call_list_of hg hm boot_listT q (he := he) (hpl := hpl)) (K ▸ ok_list) ha
theorem de_tuple {es : List Expr} {f : Env B → R (List D)} {p : Pos} (K : c.K = X.K) (hm : X.mg "tuple" = none) (ha : DA X c (e :: es) f) (hg : Gl X "tuple" := by rfl) (he : starEach (e :: es) X.env = (false, eval e X.env) :: starEach es X.env := by rfl) (hpl : (backTo pos (starEach es X.env)).any (·.1) = false := by rfl) :
    DE X c (.Call (.Name "tuple" p) (e :: es) [] pos) (eA dTuple f) := de_A (fun q => pe_callTy call_tuple_of hg hm boot_tupleT q (he := he) (hpl := hpl)) (K ▸ ok_tuple) ha
/-- int(x) of an int or a truth value -/
def dInt : List D → R D
  | [.int i] => .ok (.int i)
  | [.bool b] => .ok (.int (if b then 1 else 0))
  | _ => .stuck
theorem ok_int {K : PySem.W.Frag} : OkA K (fun xs H Q => (∃ i, xs = [.int i] ∧ Q (.int i) H) ∨ ∃ k, xs = [.bl k] ∧ Q (.int (if k then 1 else 0)) H) dInt := by
  intro M H vs ds d Q k r h q
  unfold dInt at h
  split at h
  · cases h
    cases r with
    | cons r1 r2 => cases r2; cases r1; exact .inl ⟨_, rfl, q _ _ _ (.refl k) (.int _)⟩
  · cases h
    cases r with
    | cons r1 r2 => cases r2; cases r1; exact .inr ⟨_, rfl, q _ _ _ (.refl k) (.int _)⟩
  · cases h
theorem de_intc {es : List Expr} {f : Env B → R (List D)} {p : Pos} (hm : X.mg "int" = none) (ha : DA X c (e :: es) f) (hg : Gl X "int" := by rfl) (he : starEach (e :: es) X.env = (false, eval e X.env) :: starEach es X.env := by rfl) (hpl : (backTo pos (starEach es X.env)).any (·.1) = false := by rfl) :
    DE X c (.Call (.Name "int" p) (e :: es) [] pos) (eA dInt f) := de_A (fun q => pe_callTy call_int1 hg hm boot_intT q (he := he) (hpl := hpl)) ok_int ha
/-- lists of ints, of truth values -/
def intsOf : List D → Option (List Int)
  | [] => some []
  | .int i :: r => (intsOf r).map (i :: ·)
  | _ :: _ => none
theorem intsOf_eq : ∀ {ds : List D} {ns : List Int}, intsOf ds = some ns → ds = ns.map PyData.int
  | [], ns, h => by simp [intsOf] at h; subst h; rfl
  | .int i :: r, ns, h => by
    simp only [intsOf, Option.map_eq_some_iff] at h
    obtain ⟨m, h1, rfl⟩ := h
    rw [intsOf_eq h1]; rfl
  | .none :: _, _, h | .bool _ :: _, _, h | .str _ :: _, _, h | .list _ :: _, _, h | .tuple _ :: _, _, h | .dict _ :: _, _, h => by simp [intsOf] at h
theorem intsOf_map (ns : List Int) : intsOf (ns.map PyData.int) = some ns := by
  induction ns with
  | nil => rfl
  | cons n r ih => simp [intsOf, ih]
def boolsOf : List D → Option (List Bool)
  | [] => some []
  | .bool i :: r => (boolsOf r).map (i :: ·)
  | _ :: _ => none
theorem boolsOf_eq : ∀ {ds : List D} {ns : List Bool}, boolsOf ds = some ns → ds = ns.map PyData.bool
  | [], ns, h => by simp [boolsOf] at h; subst h; rfl
  | .bool i :: r, ns, h => by
    simp only [boolsOf, Option.map_eq_some_iff] at h
    obtain ⟨m, h1, rfl⟩ := h
    rw [boolsOf_eq h1]; rfl
  | .none :: _, _, h | .int _ :: _, _, h | .str _ :: _, _, h | .list _ :: _, _, h | .tuple _ :: _, _, h | .dict _ :: _, _, h => by simp [boolsOf] at h
theorem boolsOf_map (ns : List Bool) : boolsOf (ns.map PyData.bool) = some ns := by
  induction ns with
  | nil => rfl
  | cons n r ih => simp [boolsOf, ih]
def dSum : List D → R D
  | [.list xs] => match intsOf xs with
    | some ns => .ok (.int ns.sum)
    | none => .stuck
  | _ => .stuck
def dAll : List D → R D
  | [.list xs] => match boolsOf xs with
    | some ns => .ok (.bool (ns.all id))
    | none => .stuck
  | _ => .stuck
def maxI : Int → List Int → Int
  | m, [] => m
  | m, n :: r => maxI (if m < n then n else m) r
def minI : Int → List Int → Int
  | m, [] => m
  | m, n :: r => minI (if n < m then n else m) r
theorem maxI_spec : ∀ (r : List Int) (m : Int), (maxI m r = m ∨ maxI m r ∈ r) ∧ m ≤ maxI m r ∧ ∀ y ∈ r, y ≤ maxI m r
  | [], m => ⟨.inl rfl, Int.le_refl _, fun y hy => by cases hy⟩
  | n :: r, m => by
    obtain ⟨h1, h2, h3⟩ := maxI_spec r (if m < n then n else m)
    have e : maxI m (n :: r) = maxI (if m < n then n else m) r := rfl
    rw [e]
    refine ⟨?_, ?_, fun y hy => ?_⟩
    · rcases h1 with h1 | h1
      · by_cases hc : m < n
        · rw [if_pos hc] at h1 ⊢; rw [h1]; exact .inr (by simp)
        · rw [if_neg hc] at h1 ⊢; rw [h1]; exact .inl rfl
      · exact .inr (List.mem_cons_of_mem _ h1)
    · by_cases hc : m < n
      · rw [if_pos hc] at h2 ⊢; omega
      · rw [if_neg hc] at h2 ⊢; exact h2
    · rcases List.mem_cons.mp hy with rfl | hy
      · by_cases hc : m < y
        · rw [if_pos hc] at h2 ⊢; exact h2
        · rw [if_neg hc] at h2 ⊢; omega
      · exact h3 y hy
theorem minI_spec : ∀ (r : List Int) (m : Int), (minI m r = m ∨ minI m r ∈ r) ∧ minI m r ≤ m ∧ ∀ y ∈ r, minI m r ≤ y
  | [], m => ⟨.inl rfl, Int.le_refl _, fun y hy => by cases hy⟩
  | n :: r, m => by
    obtain ⟨h1, h2, h3⟩ := minI_spec r (if n < m then n else m)
    have e : minI m (n :: r) = minI (if n < m then n else m) r := rfl
    rw [e]
    refine ⟨?_, ?_, fun y hy => ?_⟩
    · rcases h1 with h1 | h1
      · by_cases hc : n < m
        · rw [if_pos hc] at h1 ⊢; rw [h1]; exact .inr (by simp)
        · rw [if_neg hc] at h1 ⊢; rw [h1]; exact .inl rfl
      · exact .inr (List.mem_cons_of_mem _ h1)
    · by_cases hc : n < m
      · rw [if_pos hc] at h2 ⊢; omega
      · rw [if_neg hc] at h2 ⊢; exact h2
    · rcases List.mem_cons.mp hy with rfl | hy
      · by_cases hc : y < m
        · rw [if_pos hc] at h2 ⊢; exact h2
        · rw [if_neg hc] at h2 ⊢; omega
      · exact h3 y hy
def dMax : List D → R D
  | [.list xs] => match intsOf xs with
    | some (n :: r) => .ok (.int (maxI n r))
    | _ => .stuck
  | _ => .stuck
def dMin : List D → R D
  | [.list xs] => match intsOf xs with
    | some (n :: r) => .ok (.int (minI n r))
    | _ => .stuck
  | [.int i, .int j] => .ok (.int (if j < i then j else i))
  | _ => .stuck
theorem ok_sum {K : PySem.W.Frag} : OkA K (rSum K) dSum := by
  intro M H vs ds d Q k r h q
  unfold dSum at h
  split at h
  · split at h
    · rename_i ns hn
      cases h
      cases intsOf_eq hn
      cases r with
      | cons r1 r2 =>
        cases r2
        cases r1 with
        | lst h r =>
          cases r.ints
          exact ⟨_, _, rfl, SqL.of (k.same _ _ h), q _ _ _ (.refl k) (.int _)⟩
    · cases h
  · cases h
theorem ok_all {K : PySem.W.Frag} : OkA K (rAll K) dAll := by
  intro M H vs ds d Q k r h q
  unfold dAll at h
  split at h
  · split at h
    · rename_i ns hn
      cases h
      cases boolsOf_eq hn
      cases r with
      | cons r1 r2 =>
        cases r2
        cases r1 with
        | lst h r =>
          cases r.bools
          exact ⟨_, _, rfl, SqL.of (k.same _ _ h), q _ _ _ (.refl k) (.bl _)⟩
    · cases h
  · cases h
theorem ok_max {K : PySem.W.Frag} : OkA K (rMax K) dMax := by
  intro M H vs ds d Q k r h q
  unfold dMax at h
  split at h
  · split at h
    · rename_i n l hn
      cases h
      cases intsOf_eq hn
      cases r with
      | cons r1 r2 =>
        cases r2
        cases r1 with
        | lst h r =>
          cases r.ints
          refine ⟨_, _, rfl, SqL.of (k.same _ _ h), Nat.succ_pos _, fun m hm hy => ?_⟩
          obtain ⟨a1, a2, a3⟩ := maxI_spec l n
          have e : m = maxI n l := by
            apply Int.le_antisymm
            · rcases List.mem_cons.mp hm with rfl | hm
              · exact a2
              · exact a3 m hm
            · rcases a1 with a1 | a1
              · rw [a1]; exact hy n (by simp)
              · exact hy _ (List.mem_cons_of_mem _ a1)
          rw [e]
          exact q _ _ _ (.refl k) (.int _)
    · cases h
  · cases h
abbrev rMin2 : List V → Hp → VK → Prop := fun xs H Q => ∃ i j, xs = [.int i, .int j] ∧ Q (.int (if j < i then j else i)) H
theorem ok_min {K : PySem.W.Frag} : OkA K (fun xs H Q => rMin K xs H Q ∨ rMin2 xs H Q) dMin := by
  intro M H vs ds d Q k r h q
  unfold dMin at h
  split at h
  · split at h
    · rename_i n l hn
      cases h
      cases intsOf_eq hn
      cases r with
      | cons r1 r2 =>
        cases r2
        cases r1 with
        | lst h r =>
          cases r.ints
          refine .inl ⟨_, _, rfl, SqL.of (k.same _ _ h), Nat.succ_pos _, fun m hm hy => ?_⟩
          obtain ⟨a1, a2, a3⟩ := minI_spec l n
          have e : m = minI n l := by
            apply Int.le_antisymm
            · rcases a1 with a1 | a1
              · rw [a1]; exact hy n (by simp)
              · exact hy _ (List.mem_cons_of_mem _ a1)
            · rcases List.mem_cons.mp hm with rfl | hm
              · exact a2
              · exact a3 m hm
          rw [e]
          exact q _ _ _ (.refl k) (.int _)
    · cases h
  · cases h
    cases r with
    | cons r1 r2 =>
      cases r2 with
      | cons r2 r3 =>
        cases r3; cases r1; cases r2
        exact .inr ⟨_, _, rfl, q _ _ _ (.refl k) (.int _)⟩
  · cases h
theorem de_sum {es : List Expr} {f : Env B → R (List D)} {p : Pos} (K : c.K = X.K) (hc : X.calm = true) (hm : X.mg "sum" = none) (ha : DA X c (e :: es) f) (hg : Gl X "sum" := by rfl) (he : starEach (e :: es) X.env = (false, eval e X.env) :: starEach es X.env := by rfl) (hpl : (backTo pos (starEach es X.env)).any (·.1) = false := by rfl) :
    DE X c (.Call (.Name "sum" p) (e :: es) [] pos) (eA dSum f) := de_A (fun q => pe_callB (cr_sum hc) hg hm boot_sumB q (he := he) (hpl := hpl)) (K ▸ ok_sum) ha
theorem de_all {es : List Expr} {f : Env B → R (List D)} {p : Pos} (K : c.K = X.K) (hc : X.calm = true) (hm : X.mg "all" = none) (ha : DA X c (e :: es) f) (hg : Gl X "all" := by rfl) (he : starEach (e :: es) X.env = (false, eval e X.env) :: starEach es X.env := by rfl) (hpl : (backTo pos (starEach es X.env)).any (·.1) = false := by rfl) :
    DE X c (.Call (.Name "all" p) (e :: es) [] pos) (eA dAll f) := de_A (fun q => pe_callB (cr_all hc) hg hm boot_allB q (he := he) (hpl := hpl)) (K ▸ ok_all) ha
theorem de_max {es : List Expr} {f : Env B → R (List D)} {p : Pos} (K : c.K = X.K) (hc : X.calm = true) (hm : X.mg "max" = none) (ha : DA X c (e :: es) f) (hg : Gl X "max" := by rfl) (he : starEach (e :: es) X.env = (false, eval e X.env) :: starEach es X.env := by rfl) (hpl : (backTo pos (starEach es X.env)).any (·.1) = false := by rfl) :
    DE X c (.Call (.Name "max" p) (e :: es) [] pos) (eA dMax f) := de_A (fun q => pe_callB (cr_max hc) hg hm boot_maxB q (he := he) (hpl := hpl)) (K ▸ ok_max) ha
theorem de_min {es : List Expr} {f : Env B → R (List D)} {p : Pos} (K : c.K = X.K) (hc : X.calm = true) (hm : X.mg "min" = none) (ha : DA X c (e :: es) f) (hg : Gl X "min" := by rfl) (he : starEach (e :: es) X.env = (false, eval e X.env) :: starEach es X.env := by rfl) (hpl : (backTo pos (starEach es X.env)).any (·.1) = false := by rfl) :
    DE X c (.Call (.Name "min" p) (e :: es) [] pos) (eA dMin f) := de_A (fun q => pe_callB ((cr_min hc).or (call_min2 hc)) hg hm boot_minB q (he := he) (hpl := hpl)) (K ▸ ok_min) ha
/-- isinstance(x, T), T built in -/
def tyD : D → Option String
  | .none => some "NoneType"
  | .bool _ => some "bool"
  | .int _ => some "int"
  | .str _ => some "str"
  | .list _ => some "list"
  | .tuple _ => some "tuple"
  | .dict [] => some "dict"
  | .dict (_ :: _) => none
def dIsi (T : String) (x : D) : R D := match tyD x with
  | some t => match kitB t T with
    | some b => .ok (.bool b)
    | none => .stuck
  | none => .stuck
theorem Rep.tyX {K : PySem.W.Frag} {M H : Hp} (k : MOk M H) {v : V} {x : D} {t : String} (r : Rep K M v x) (e : tyD x = some t) : TyX K H v (.type t) := by
  cases r with
  | non => cases e; exact .base .non
  | bl b => cases e; exact .base (.bl b)
  | int b => cases e; exact .base (.int b)
  | str b => cases e; exact .base (.str b)
  | lst h _ => cases e; exact .base (.lst (k.same _ _ h))
  | scr h _ => cases e
  | dic h => cases e; exact .base (.dK (k.same _ _ h))
  | obj _ _ _ _ => cases e
  | tup h _ =>
    cases e
    rcases h with (h | ⟨o, h⟩) | ⟨o, its, n, h, hc, _⟩
    · exact .base (.tup (k.same _ _ h))
    · exact .fTuple (k.same _ _ h)
    · exact .kTuple h hc
theorem ClsV_ty (n : String) : ClsV (.ty n) (.type n) := by constructor
theorem de_isi {T : String} {x : Str} {p p2 : Pos} (K : c.K = X.K) (hm : X.mg "isinstance" = none) (hmT : X.mg x = none) (hv : bootBuiltins x = some (.type T)) (ha : DE X c a f) (hg : Gl X "isinstance" := by rfl) (hgT : Gl X x := by rfl)
    (hn : x ≠ "__name__" := by decide) (hd : (x == ("__debug__" : Str)) = false := by decide) (hs : starEach [a, .Name x p2] X.env = (false, eval a X.env) :: starEach [.Name x p2] X.env := by rfl) (hs2 : starEach [.Name x p2] X.env = (false, eval (.Name x p2) X.env) :: starEach [] X.env := by rfl)
    (hpl : (backTo pos (starEach [.Name x p2] X.env)).any (·.1) = false := by rfl) :
    DE X c (.Call (.Name "isinstance" p) [a, .Name x p2] [] pos) (e1 (dIsi T) f) := by
  have hT : PE X (.Name x p2) (tC (.ty T)) := pe_bltn hgT hmT hv rfl hn hd
  refine ⟨PE.imp (pe_callB call_isi hg hm boot_isiB (pa_cons ha.pe (pa_cons hT pa_nil hs2) hs) (he := hs) (hpl := hpl)) fun σ H Q ⟨I, M, ρ, e, q⟩ => ?_⟩
  refine ⟨I, M, ρ, e, q.bind.mono fun x hx v H1 M1 k1 e1 r1 => ?_⟩
  obtain ⟨d, hd, hp⟩ := hx.noE
  unfold dIsi at hd
  split at hd
  · rename_i t ht
    split at hd
    · rename_i b hb
      cases hd
      exact ⟨_, _, _, _, b, rfl, ClsV_ty T, K ▸ r1.tyX e1.mok ht, kit_ty hb, hp _ H1 M1 k1 e1 (.bl _)⟩
    · cases hd
  · cases hd
end
end PL

set_option Elab.async false
set_option linter.all false
set_option maxRecDepth 100000
set_option maxHeartbeats 4000000
/-! targets, what is walked, comprehensions, fresh lists -/
namespace PL
open PySem PySem.Spec PyProof.Rows L2
section
variable {B : ObjB} {K : PySem.W.Frag} {I : Ent} {M H M' H' : Hp} {σ σ' : L2.St} {ρ ρ' : Env B}

/-! ### environments that change -/
theorem EnvR.set {i : Nat} {v : V} {d : D} (e : EnvR K I M H σ ρ) (r : Rep K M v d) : EnvR K I M H (σ.set i (some v)) (ρ.set i (.val d)) where
  len := by rw [List.length_set, List.length_set]; exact e.len
  ent := e.ent
  msub := e.msub
  mok := e.mok
  mem := e.mem
  mnew := e.mnew
  slots := fun j s h => by
    by_cases hj : i = j
    · subst hj
      by_cases hl : i < ρ.length
      · rw [List.getElem?_set_self hl] at h
        cases h
        exact ⟨v, by rw [List.getElem?_set_self (by rw [e.len]; exact hl)], r⟩
      · rw [List.getElem?_eq_none (by rw [List.length_set]; omega)] at h; cases h
    · rw [List.getElem?_set_ne hj] at h ⊢
      exact e.slots j s h
  apart := fun j k ds es hne h1 h2 => by
    have nj : i ≠ j := fun z => by
      subst z
      by_cases hl : i < ρ.length
      · rw [List.getElem?_set_self hl] at h1; cases h1
      · rw [List.getElem?_eq_none (by rw [List.length_set]; omega)] at h1; cases h1
    have nk : i ≠ k := fun z => by
      subst z
      by_cases hl : i < ρ.length
      · rw [List.getElem?_set_self hl] at h2; cases h2
      · rw [List.getElem?_eq_none (by rw [List.length_set]; omega)] at h2; cases h2
    rw [List.getElem?_set_ne nj] at h1 ⊢
    rw [List.getElem?_set_ne nk] at h2 ⊢
    exact e.apart j k ds es hne h1 h2
theorem EnvR.setNo {i : Nat} {w : Option V} (e : EnvR K I M H σ ρ) : EnvR K I M H (σ.set i w) (ρ.set i .no) where
  len := by rw [List.length_set, List.length_set]; exact e.len
  ent := e.ent
  msub := e.msub
  mok := e.mok
  mem := e.mem
  mnew := e.mnew
  slots := fun j s h => by
    by_cases hj : i = j
    · subst hj
      by_cases hl : i < ρ.length
      · rw [List.getElem?_set_self hl] at h
        cases h
        trivial
      · rw [List.getElem?_eq_none (by rw [List.length_set]; omega)] at h; cases h
    · rw [List.getElem?_set_ne hj] at h ⊢
      exact e.slots j s h
  apart := fun j k ds es hne h1 h2 => by
    have nj : i ≠ j := fun z => by
      subst z
      by_cases hl : i < ρ.length
      · rw [List.getElem?_set_self hl] at h1; cases h1
      · rw [List.getElem?_eq_none (by rw [List.length_set]; omega)] at h1; cases h1
    have nk : i ≠ k := fun z => by
      subst z
      by_cases hl : i < ρ.length
      · rw [List.getElem?_set_self hl] at h2; cases h2
      · rw [List.getElem?_eq_none (by rw [List.length_set]; omega)] at h2; cases h2
    rw [List.getElem?_set_ne nj] at h1 ⊢
    rw [List.getElem?_set_ne nk] at h2 ⊢
    exact e.apart j k ds es hne h1 h2
/-- a new list is the name's own -/
theorem EnvR.setOwn {i : Nat} {l : Addr} {vs : List V} {ds : List D} (e : EnvR K I M H σ ρ) (hl : H l = some (.lst vs)) (ml : M l = none) (il : I.H l = none) (r : Reps K M vs ds)
    (ne : ∀ (j : Nat) (es : List D), i ≠ j → ρ[j]? = some (.own es) → σ[j]? ≠ some (some (.ref l))) : EnvR K I M H (σ.set i (some (.ref l))) (ρ.set i (.own ds)) where
  len := by rw [List.length_set, List.length_set]; exact e.len
  ent := e.ent
  msub := e.msub
  mok := e.mok
  mem := e.mem
  mnew := e.mnew
  slots := fun j s h => by
    by_cases hj : i = j
    · subst hj
      by_cases hl' : i < ρ.length
      · rw [List.getElem?_set_self hl'] at h
        cases h
        exact ⟨l, vs, by rw [List.getElem?_set_self (by rw [e.len]; exact hl')], hl, ml, il, r⟩
      · rw [List.getElem?_eq_none (by rw [List.length_set]; omega)] at h; cases h
    · rw [List.getElem?_set_ne hj] at h ⊢
      exact e.slots j s h
  apart := fun j k ds' es hne h1 h2 => by
    by_cases hj : i = j
    · subst hj
      by_cases hl' : i < ρ.length
      · rw [List.getElem?_set_ne hne] at h2 ⊢
        rw [List.getElem?_set_self (by rw [e.len]; exact hl')]
        exact fun z => ne k es hne h2 z.symm
      · rw [List.getElem?_eq_none (by rw [List.length_set]; omega)] at h1; cases h1
    · rw [List.getElem?_set_ne hj] at h1 ⊢
      by_cases hk : i = k
      · subst hk
        by_cases hl' : i < ρ.length
        · rw [List.getElem?_set_self (by rw [e.len]; exact hl')]
          exact ne j ds' hj h1
        · rw [List.getElem?_eq_none (by rw [List.length_set]; omega)] at h2; cases h2
      · rw [List.getElem?_set_ne hk] at h2 ⊢
        exact e.apart j k ds' es hne h1 h2
/-- a list that stands is taken among what stays -/
theorem EnvR.adopt {l : Addr} {o : HO} (e : EnvR K I M H σ ρ) (hl : H l = some o) (io : imm o = true) (ml : M l = none) (il : I.H l = none) (ne : ∀ (j : Nat) (es : List D), ρ[j]? = some (.own es) → σ[j]? ≠ some (some (.ref l))) (ni : isIns o = false := by rfl) :
    EnvR K I (upd M l o) H σ ρ where
  mem := e.mem.up (upd_same_of ml) fun a u h n => by
    by_cases z : a = l
    · subst z; rw [upd_same] at h; cases h; exact ni
    · rw [upd_ne z, n] at h; cases h
  len := e.len
  ent := e.ent
  msub := e.msub.trans (upd_same_of ml)
  mok := fun a u h => by
    by_cases z : a = l
    · subst z; rw [upd_same] at h; cases h; exact ⟨hl, io⟩
    · rw [upd_ne z] at h; exact e.mok a u h
  mnew := fun a u h n => by
    by_cases z : a = l
    · subst z; exact il
    · rw [upd_ne z] at h; exact e.mnew a u h n
  slots := fun j s h => by
    have q := e.slots j s h
    have sm : Same M (upd M l o) := upd_same_of ml
    cases s with
    | no => trivial
    | val d => obtain ⟨v, a, r⟩ := q; exact ⟨v, a, r.same sm⟩
    | own ds =>
      obtain ⟨l', vs, a, h1, h2, h3, r⟩ := q
      have nl : l' ≠ l := fun z => by subst z; exact ne j ds h a
      exact ⟨l', vs, a, h1, by rw [upd_ne nl]; exact h2, h3, r.same sm⟩
    | obj z =>
      obtain ⟨v, a, r⟩ := q
      refine ⟨v, a, B.mono _ _ _ _ _ _ _ _ r sm (fun b u q n => ?_) fun _ _ x _ _ => x⟩
      by_cases z : b = l
      · subst z; exact .inl il
      · rw [upd_ne z, n] at q; cases q
  apart := e.apart
/-- an own list is taken among what stays -/
theorem EnvR.freeze {i : Nat} {ds : List D} (e : EnvR K I M H σ ρ) (h : ρ[i]? = some (.own ds)) : ∃ l vs, σ[i]? = some (some (.ref l)) ∧ H l = some (.lst vs) ∧ M l = none ∧ I.H l = none ∧ Reps K M vs ds ∧ EnvR K I (upd M l (.lst vs)) H σ (ρ.set i (.val (.list ds))) := by
  obtain ⟨l, vs, a, hl, ml, il, r⟩ := e.slots i _ h
  refine ⟨l, vs, a, hl, ml, il, r, ?_⟩
  have e0 : EnvR K I M H (σ.set i (some (.ref l))) (ρ.set i .no) := e.setNo
  have eσ : σ.set i (some (.ref l)) = σ := by
    apply List.ext_getElem?
    intro j
    by_cases hj : i = j
    · subst hj
      have hi : i < σ.length := (List.getElem?_eq_some_iff.mp a).1
      rw [List.getElem?_set_self hi, a]
    · rw [List.getElem?_set_ne hj]
  rw [eσ] at e0
  have e1 := e0.adopt (l := l) (o := .lst vs) hl rfl ml il fun j es hj hs => by
    by_cases z : i = j
    · subst z
      by_cases hl' : i < ρ.length
      · rw [List.getElem?_set_self hl'] at hj; cases hj
      · rw [List.getElem?_eq_none (by rw [List.length_set]; omega)] at hj; cases hj
    · rw [List.getElem?_set_ne z] at hj
      exact e.apart i j ds es z h hj (a.trans hs.symm)
  have e2 := e1.set (i := i) (v := .ref l) (d := .list ds) (.lst upd_same (r.same (upd_same_of ml)))
  rw [eσ] at e2
  rw [List.set_set] at e2
  exact e2

/-! ### targets -/
def Off (is : List Nat) (σ σ' : L2.St) : Prop := σ'.length = σ.length ∧ ∀ j, j ∉ is → σ'[j]? = σ[j]?
theorem Off.refl {is : List Nat} : Off is σ σ := ⟨rfl, fun _ _ => rfl⟩
theorem Off.trans {is js : List Nat} {σ2 : L2.St} (a : Off is σ σ') (b : Off js σ' σ2) : Off (is ++ js) σ σ2 :=
  ⟨b.1.trans a.1, fun j hj => by rw [List.mem_append, not_or] at hj; exact (b.2 j hj.2).trans (a.2 j hj.1)⟩
def OffE (is : List Nat) (ρ ρ' : Env B) : Prop := ρ'.length = ρ.length ∧ ∀ j, j ∉ is → ρ'[j]? = ρ[j]?
theorem OffE.trans {is js : List Nat} {ρ2 : Env B} (a : OffE is ρ ρ') (b : OffE js ρ' ρ2) : OffE (is ++ js) ρ ρ2 :=
  ⟨b.1.trans a.1, fun j hj => by rw [List.mem_append, not_or] at hj; exact (b.2 j hj.2).trans (a.2 j hj.1)⟩
abbrev ETg (B : ObjB) := D → Env B → R (Env B)
def gD (K : PySem.W.Frag) (is : List Nat) (t : ETg B) : TG := fun v σ H Q => ∃ I M ρ d ρ', EnvR K I M H σ ρ ∧ Rep K M v d ∧ t d ρ = .ok ρ' ∧ ∀ σ', EnvR K I M H σ' ρ' → Off is σ σ' → Q σ' H
def gsD (K : PySem.W.Frag) (is : List Nat) (t : List D → Env B → R (Env B)) : TGs := fun vs σ H Q => ∃ I M ρ ds ρ', EnvR K I M H σ ρ ∧ Reps K M vs ds ∧ t ds ρ = .ok ρ' ∧ ∀ σ', EnvR K I M H σ' ρ' → Off is σ σ' → Q σ' H
structure DG (X : Cx) (tgt : Expr) (is : List Nat) (t : ETg B) : Prop where
  pg : PG X tgt (gD X.K is t)
  off : ∀ d ρ ρ', t d ρ = .ok ρ' → OffE is ρ ρ'
structure DGs (X : Cx) (ts : List Expr) (is : List Nat) (t : List D → Env B → R (Env B)) : Prop where
  pg : PGs X ts (gsD X.K is t)
  off : ∀ d ρ ρ', t d ρ = .ok ρ' → OffE is ρ ρ'
theorem PG.imp {X : Cx} {e : Expr} {t u : TG} (h : PG X e t) (k : ∀ v σ H Q, u v σ H Q → t v σ H Q) : PG X e u := ⟨fun pins s σ H v w Q I r q => h.run pins s σ H v w Q I r (k v σ H Q q)⟩
theorem PGs.imp {X : Cx} {e : List Expr} {t u : TGs} (h : PGs X e t) (k : ∀ v σ H Q, u v σ H Q → t v σ H Q) : PGs X e u := ⟨fun pins s σ H v w Q I r q => h.run pins s σ H v w Q I r (k v σ H Q q)⟩
variable {X : Cx} {pos : Pos}
def gN (i : Nat) : ETg B := fun d ρ => .ok (ρ.set i (.val d))
theorem dg_name {i : Nat} {x : Str} (hN : X.N.Nodup) (hi : X.N[i]? = some x) (hx : Loc X.env.scope x) (hf : X.fn x = true ∨ X.env.scope.names.lookup x = some .local := by first | exact .inl rfl | exact .inr rfl | assumption) : DG X (.Name x pos) [i] (gN (B := B) i) := by
  refine ⟨PG.imp (pg_name hN hi hx hf) fun v σ H Q ⟨I, M, ρ, d, ρ', e, r, h, q⟩ => ?_, fun d ρ ρ' h => ?_⟩
  · cases h
    exact q _ (e.set r) ⟨List.length_set, fun j hj => List.getElem?_set_ne (fun z => hj (by simp [z]))⟩
  · cases h
    exact ⟨List.length_set, fun j hj => List.getElem?_set_ne (fun z => hj (by simp [z]))⟩
def gsN : List D → Env B → R (Env B) := fun ds ρ => match ds with
  | [] => .ok ρ
  | _ :: _ => .stuck
def gsC (t : ETg B) (u : List D → Env B → R (Env B)) : List D → Env B → R (Env B) := fun ds ρ => match ds with
  | [] => .stuck
  | d :: r => (t d ρ).bind fun ρ1 => u r ρ1
theorem dgs_nil : DGs X [] [] (gsN (B := B)) := by
  refine ⟨PGs.imp pgs_nil fun v σ H Q ⟨I, M, ρ, ds, ρ', e, r, h, q⟩ => ?_, fun d ρ ρ' h => ?_⟩
  · cases r with
    | nil => cases h; exact ⟨rfl, q _ e .refl⟩
    | cons _ _ => cases h
  · cases d with
    | nil => cases h; exact ⟨rfl, fun _ _ => rfl⟩
    | cons _ _ => cases h
theorem R.bind_eq {α β : Type} {r : R α} {k : α → R β} {b : β} (h : r.bind k = .ok b) : ∃ a, r = .ok a ∧ k a = .ok b := by
  cases r with
  | ok a => exact ⟨a, rfl, h⟩
  | exc n => cases h
  | stuck => cases h
theorem dgs_cons {e : Expr} {es : List Expr} {is js : List Nat} {t : ETg B} {u : List D → Env B → R (Env B)} (h : DG X e is t) (h' : DGs X es js u)
    (hs : (assignEach (e :: es) X.env).map (·.2) = assign e X.env :: (assignEach es X.env).map (·.2) := by rfl) : DGs X (e :: es) (is ++ js) (gsC t u) := by
  refine ⟨PGs.imp (pgs_cons h.pg h'.pg hs) fun vs σ H Q ⟨I, M, ρ, ds, ρ', e, r, hh, q⟩ => ?_, fun d ρ ρ' hh => ?_⟩
  · cases r with
    | nil => cases hh
    | cons r1 r2 =>
      obtain ⟨ρ1, a1, a2⟩ := R.bind_eq hh
      exact ⟨_, _, rfl, I, M, ρ, _, ρ1, e, r1, a1, fun σ1 e1 o1 => ⟨I, M, ρ1, _, ρ', e1, r2, a2, fun σ2 e2 o2 => q σ2 e2 (o1.trans o2)⟩⟩
  · cases d with
    | nil => cases hh
    | cons d ds =>
      obtain ⟨ρ1, a1, a2⟩ := R.bind_eq hh
      exact (h.off _ _ _ a1).trans (h'.off _ _ _ a2)
def gT (n : Nat) (u : List D → Env B → R (Env B)) : ETg B := fun d ρ => match d with
  | .tuple ds => if ds.length = n then u ds ρ else .stuck
  | _ => .stuck
theorem dg_tup {es : List Expr} {j : Nat} {is : List Nat} {u : List D → Env B → R (Env B)} {n : Nat} (hc : X.calm = true) (h : DGs X es is u)
    (hn : (assignEach es X.env).length = n := by rfl) (hst : (assignEach es X.env).findIdx? (·.1) = none := by rfl) : DG X (.Tuple es j pos) is (gT n u) := by
  refine ⟨PG.imp (pg_tup hc h.pg hn hst) fun v σ H Q ⟨I, M, ρ, d, ρ', e, r, hh, q⟩ => ?_, fun d ρ ρ' hh => ?_⟩
  · unfold gT at hh
    split at hh
    · split at hh
      · rename_i hl
        cases r with
        | tup ht rr => exact ⟨_, _, rfl, sqT_same e.mok.same ht, by rw [rr.length]; exact hl, I, M, ρ, _, ρ', e, rr, hh, q⟩
      · cases hh
    · cases hh
  · unfold gT at hh
    split at hh
    · split at hh
      · exact h.off _ _ _ hh
      · cases hh
    · cases hh

/-! ### what is walked -/
structure WalkJ (K : PySem.W.Frag) (M1 : Hp) (J : It) (items : List D) : Prop where
  go : ∀ (i : Nat) H M d, MOk M H → Same M1 M → items[i]? = some d → J.go i H ∧ ∀ x H', J.yld i H x H' → ∃ M', Grow M H M' H' ∧ Rep K M' x d
  stop : ∀ H M, MOk M H → Same M1 M → J.stop items.length H
def iD (c : Ctx B) (fi : Env B → R (List D)) : TI := fun σ H Rr => ∃ I M ρ, EnvR c.K I M H σ ρ ∧ RD c I (fi ρ) fun items => ∀ J H1 M1, Step I.b M H M1 H1 → EnvR c.K I M1 H1 σ ρ → WalkJ c.K M1 J items → Rr J H1
structure DI (X : Cx) (c : Ctx B) (tg iter : Expr) (fi : Env B → R (List D)) : Prop where
  pi : PI X tg iter (iD c fi)
theorem PI.imp {tg iter : Expr} {t u : TI} (h : PI X tg iter t) (k : ∀ σ H Q, u σ H Q → t σ H Q) : PI X tg iter u := ⟨fun pins s σ H R I q => h.run pins s σ H R I (k σ H R q)⟩
variable {c : Ctx B} {tg e : Expr} {f : Env B → R D}
def iAny (K : PySem.W.Frag) (tl : TE) : TI := fun σ H R => tl σ H fun x H1 => ∃ a, x = .ref a ∧ ((∃ xs, SqL K H1 a xs ∧ R (Itl K a) H1) ∨ ∃ xs, SqT K H1 a xs ∧ R (Itt K a) H1)
theorem pi_any {l : Expr} {tl : TE} (hl : PE X l tl) : PI X tg l (iAny X.K tl) := by
  refine ⟨fun pins s σ H R I h => ?_⟩
  refine thn (hl.run pins s σ H _ I h) fun v s1 ⟨x, H1, I1, r1, q1⟩ => ?_
  obtain ⟨a, e, q⟩ := q1
  subst e
  cases r1
  rcases q with ⟨xs, hq, q⟩ | ⟨xs, hq, q⟩
  · obtain ⟨its, rv, p, hz⟩ := I1.list hq
    refine wpAny_pyIter_list p.isList ?_
    refine ⟨s1.heap.objs.size, [s1.heap.objs.size], _, _, H1, rfl, I1.kept (t' := s1.toks) fun b o e => Heap.get?_push_of_some _ e, turn_list a _, ⟨_, Heap.get?_push_size _ rfl, rfl, rfl⟩, fun b hb => ?_, q⟩
    have e : b = s1.heap.objs.size := by simpa using hb
    subst e
    exact I1.fpOk (Nat.le_refl _) (I1.hok.fresh (Nat.le_refl _))
  · obtain ⟨its, rv, p, hz⟩ := I1.tuple hq
    refine wpAny_pyIter_tuple (show s1.heap.IsTuple a its.toArray from p) ?_
    refine ⟨s1.heap.objs.size, [s1.heap.objs.size], _, _, H1, rfl, I1.kept (t' := s1.toks) fun b o e => Heap.get?_push_of_some _ e, turn_tuple a _, ⟨_, Heap.get?_push_size _ rfl, rfl, rfl⟩, fun b hb => ?_, q⟩
    have e : b = s1.heap.objs.size := by simpa using hb
    subst e
    exact I1.fpOk (Nat.le_refl _) (I1.hok.fresh (Nat.le_refl _))
theorem sqL_inj {K : PySem.W.Frag} {H : Hp} {a : Addr} {xs ys : List V} (h : H a = some (.lst xs)) (hn : K.lookup a = none) (q : SqL K H a ys) : ys = xs := by
  rcases q with (q | ⟨o, q⟩) | ⟨o, its, n, q, _⟩
  · rw [h] at q; cases q; rfl
  · rw [h] at q; cases q
  · rw [hn] at q; cases q
/-- a walk over what holds these items -/
theorem walk_seq {p : Addr} {vs : List V} {items : List D} {M1 : Hp} (hs : SqL K M1 p vs) (r : Reps K M1 vs items) : WalkJ K M1 (Itl K p) items where
  go := fun i H M d k s e => by
    obtain ⟨v, hv, rv⟩ := r.get e
    have hH := k.same.seq (s.seq hs)
    refine ⟨⟨vs, v, hH, hv⟩, fun x H' y => ?_⟩
    obtain ⟨e1, y⟩ := y
    subst e1
    have hx := y vs hH
    rw [hv] at hx
    cases hx
    exact ⟨M, .refl k, rv.same s⟩
  stop := fun H M k s => ⟨vs, k.same.seq (s.seq hs), by rw [r.length]; exact Nat.le_refl _⟩
theorem walk_tup {p : Addr} {vs : List V} {items : List D} {M1 : Hp} (hs : SqT K M1 p vs) (r : Reps K M1 vs items) : WalkJ K M1 (Itt K p) items where
  go := fun i H M d k s e => by
    obtain ⟨v, hv, rv⟩ := r.get e
    have hH := sqT_same k.same (sqT_same s hs)
    refine ⟨⟨vs, v, hH, hv⟩, fun x H' y => ?_⟩
    obtain ⟨e1, y⟩ := y
    subst e1
    have hx := y vs hH
    rw [hv] at hx
    cases hx
    exact ⟨M, .refl k, rv.same s⟩
  stop := fun H M k s => ⟨vs, sqT_same k.same (sqT_same s hs), by rw [r.length]; exact Nat.le_refl _⟩
theorem Rep.itemsM {M : Hp} {v : V} {x : D} {xs : List D} (r : Rep K M v x) (e : itemsOf x = some xs) : ∃ p vs, v = .ref p ∧ (SqL K M p vs ∨ SqT K M p vs) ∧ Reps K M vs xs := by
  unfold itemsOf at e
  split at e
  · cases e
    cases r with
    | lst h q => exact ⟨_, _, rfl, .inl (SqL.of h), q⟩
  · cases e
    cases r with
    | tup h q => exact ⟨_, _, rfl, .inr h, q⟩
  · cases e
    cases r with
    | scr h q => exact ⟨_, _, rfl, .inl h, q⟩
  · cases e
def toItems (x : D) : R (List D) := match itemsOf x with
  | some xs => .ok xs
  | none => .stuck
theorem toItems_rd {I : Ent} {x : D} {P : List D → Prop} (h : RD c I (toItems x) P) : ∃ xs, itemsOf x = some xs ∧ P xs := by
  unfold toItems at h
  split at h
  · exact ⟨_, by assumption, h⟩
  · exact h.elim
def iSeq (f : Env B → R D) : Env B → R (List D) := fun ρ => (f ρ).bind toItems
theorem di_seq (K : c.K = X.K) (h : DE X c e f) : DI X c tg e (iSeq f) := by
  refine ⟨PI.imp (pi_any h.pe) fun σ H Q ⟨I, M, ρ, e, q⟩ => ?_⟩
  refine ⟨I, M, ρ, e, q.bind.mono fun x hx v H1 M1 k1 e1 r1 => ?_⟩
  obtain ⟨xs, hxs, hp⟩ := toItems_rd hx
  obtain ⟨p, vs, rfl, hs, r⟩ := r1.itemsM hxs
  rw [← K]
  rcases hs with hs | hs
  · exact ⟨p, rfl, .inl ⟨vs, e1.mok.same.seq hs, hp _ _ _ k1 e1 (walk_seq hs r)⟩⟩
  · exact ⟨p, rfl, .inr ⟨vs, sqT_same e1.mok.same hs, hp _ _ _ k1 e1 (walk_tup hs r)⟩⟩
/-- range(n), range(a, b) -/
def rangeD (a b : Int) : List D := (List.range (b - a).toNat).map fun i : Nat => PyData.int (a + i)
def iRng1 (f : Env B → R (List D)) : Env B → R (List D) := fun ρ => (f ρ).bind fun xs => match xs with
  | [.int j] => if -100000 ≤ j ∧ j ≤ 100000 then .ok (rangeD 0 j) else .stuck
  | _ => .stuck
def iRng2 (f : Env B → R (List D)) : Env B → R (List D) := fun ρ => (f ρ).bind fun xs => match xs with
  | [.int i, .int j] => if -100000 ≤ i ∧ i ≤ 100000 ∧ -100000 ≤ j ∧ j ≤ 100000 then .ok (rangeD i j) else .stuck
  | _ => .stuck
theorem walk_range {a b : Int} {M1 : Hp} : WalkJ K M1 (Itr a (b - a).toNat) (rangeD a b) where
  go := fun i H M d k s e => by
    unfold rangeD at e
    rw [List.getElem?_map] at e
    have hi : i < (b - a).toNat := by
      by_cases h : i < (b - a).toNat
      · exact h
      · rw [List.getElem?_eq_none (by simpa using h)] at e; cases e
    rw [List.getElem?_range hi] at e
    cases e
    refine ⟨hi, fun x H' y => ?_⟩
    obtain ⟨e1, e2⟩ := y
    subst e1; subst e2
    exact ⟨M, .refl k, .int _⟩
  stop := fun H M k s => by
    show (b - a).toNat ≤ (rangeD a b).length
    unfold rangeD
    simp
theorem di_range1 {a : Expr} {fa : Env B → R (List D)} {p : Pos} (hm : X.mg "range" = none) (ha : DA X c [a] fa) (hg : Gl X "range" := by rfl) (hs : starEach [a] X.env = [(false, eval a X.env)] := by rfl) : DI X c tg (.Call (.Name "range" p) [a] [] pos) (iRng1 fa) := by
  refine ⟨PI.imp (pi_range1 hg hm ha.pa hs) fun σ H Q ⟨I, M, ρ, e, q⟩ => ?_⟩
  refine ⟨I, M, ρ, e, RD.mono q.bind fun x hx v H1 M1 k1 e1 r1 => ?_⟩
  split at hx
  · rename_i j
    split at hx
    · rename_i hb
      cases r1 with
      | cons r1 r2 =>
        cases r2; cases r1
        refine ⟨j, rfl, by omega, by omega, ?_⟩
        have w := walk_range (K := c.K) (a := 0) (b := j) (M1 := M1)
        rw [Int.sub_zero] at w
        exact hx _ _ _ k1 e1 w
    · exact hx.elim
  · exact hx.elim
theorem di_range2 {a b : Expr} {fa : Env B → R (List D)} {p : Pos} (hm : X.mg "range" = none) (ha : DA X c [a, b] fa) (hg : Gl X "range" := by rfl) (hs : starEach [a, b] X.env = [(false, eval a X.env), (false, eval b X.env)] := by rfl) (hs2 : starEach [b] X.env = [(false, eval b X.env)] := by rfl) :
    DI X c tg (.Call (.Name "range" p) [a, b] [] pos) (iRng2 fa) := by
  refine ⟨PI.imp (pi_range2 hg hm ha.pa hs hs2) fun σ H Q ⟨I, M, ρ, e, q⟩ => ?_⟩
  refine ⟨I, M, ρ, e, RD.mono q.bind fun x hx v H1 M1 k1 e1 r1 => ?_⟩
  split at hx
  · rename_i i j
    split at hx
    · rename_i hb
      cases r1 with
      | cons r1 r2 =>
        cases r2 with
        | cons r2 r3 =>
          cases r3; cases r1; cases r2
          exact ⟨i, j, rfl, ⟨by omega, by omega, by omega, by omega⟩, hx _ _ _ k1 e1 walk_range⟩
    · exact hx.elim
  · exact hx.elim
end
end PL

set_option Elab.async false
set_option linter.all false
set_option maxRecDepth 100000
set_option maxHeartbeats 4000000
/-! zip, enumerate, reversed, over lists and tuples in any mix -/
namespace PL
open PySem PySem.Spec PyProof.Rows L2
/-! ### a list or a tuple -/
def SqA (K : PySem.W.Frag) (t : Bool) (H : Hp) (a : Addr) (xs : List V) : Prop := match t with
  | false => SqL K H a xs
  | true => SqT K H a xs
def ItA (t : Bool) (h : Heap) (it a : Addr) (i : Nat) : Prop := match t with
  | false => h.IsListIter it a i
  | true => h.IsTupleIter it a i
def IsA (t : Bool) (h : Heap) (a : Addr) (items : Array Value) : Prop := match t with
  | false => h.IsList a items
  | true => h.IsTuple a items
theorem draws_sel {prog : Program} {w : World} {A : Around} (t : Bool) (hh : A.handled = none) (it a : Addr) (hne : a ≠ it) (items : Array Value) :
    Draws prog w A it [it, a] items.size (fun i v => items[i]? = some v) (fun i h => ItA t h it a i ∧ IsA t h a items) := by
  cases t
  · exact Draws.list hh it a hne items
  · exact Draws.tuple hh it a hne items
theorem ItA.obj {t : Bool} {h : Heap} {it a : Addr} {i : Nat} (x : ItA t h it a i) : ∃ o, h.get? it = some o ∧ ∀ v, o.data ≠ .cell v := by
  cases t
  · obtain ⟨o, e, _, d⟩ := x
    exact ⟨o, e, fun v q => by rw [d] at q; cases q⟩
  · obtain ⟨o, e, _, d⟩ := x
    exact ⟨o, e, fun v q => by rw [d] at q; cases q⟩
theorem ItA.at {t : Bool} {h h' : Heap} {it a : Addr} {i : Nat} (x : ItA t h it a i) (k : ∀ o, h.get? it = some o → h'.get? it = some o) : ItA t h' it a i := by
  cases t
  · exact Heap.IsListIter.at x k
  · obtain ⟨o, e, r⟩ := x
    exact ⟨o, k o e, r⟩
section
variable {X : Cx} {pins : List (Addr × Obj)} {σ : L2.St} {H : Hp} {s : Shared} {a : Addr} {xs ys : List V} {t : Bool}
theorem inv_sq (I : Inv X pins σ H s) (h : SqA X.K t H a xs) : ∃ its : List Value, Vals xs its ∧ IsA t s.heap a its.toArray ∧ xs.length ≤ sizeLine ∧ a < s.heap.objs.size := by
  cases t
  · obtain ⟨its, r, p, z⟩ := I.list h
    exact ⟨its, r, p.isList, z, p.lt⟩
  · obtain ⟨its, r, p, z⟩ := I.tuple h
    exact ⟨its, r, p, z, p.lt⟩
theorem inv_inj (I : Inv X pins σ H s) (h : SqA X.K t H a xs) (h' : SqA X.K t H a ys) : xs = ys := by
  cases t
  · exact I.list_inj h h'
  · exact I.tuple_inj h h'
end
/-! ### zip -/
def ItzA (K : PySem.W.Frag) (t1 t2 : Bool) (a b : Addr) : It :=
  ⟨fun i H => ∃ (xs ys : List V) (x y : V), SqA K t1 H a xs ∧ SqA K t2 H b ys ∧ xs[i]? = some x ∧ ys[i]? = some y,
    fun i H v H' => ∃ T x y, v = .ref T ∧ H T = none ∧ H' = upd H T (.tup [x, y]) ∧ (∀ xs, SqA K t1 H a xs → xs[i]? = some x) ∧ ∀ ys, SqA K t2 H b ys → ys[i]? = some y,
    fun i H => ∃ xs ys : List V, SqA K t1 H a xs ∧ SqA K t2 H b ys ∧ i ≤ xs.length ∧ i ≤ ys.length ∧ (i = xs.length ∨ i = ys.length)⟩
theorem turn_zipA {P : Program} {w : World} {K : PySem.W.Frag} {elts : List Expr} {kk : Nat} {tpos : Pos} {a b z TI TO i1 i2 : Addr} (t1 t2 : Bool) (D : ZipSep2 z TI TO i1 i2 [i1, a] [i2, b]) (na : a ≠ i1) (nb : b ≠ i2) :
    Turn P w K (.Tuple elts kk tpos) (ItzA K t1 t2 a b) [z, TI, TO, i1, i2] z (fun i h => IsZip h z TI TO .none ∧ IsTupOf2 h TI (.ref i1) (.ref i2) ∧ (∃ x y, IsTupOf2 h TO x y) ∧ ItA t1 h i1 a i ∧ ItA t2 h i2 b i) where
  mem := by simp
  obj := fun i h st c hc => by
    obtain ⟨hz, hTI, ⟨x, y, hTO⟩, h1, h2⟩ := st
    have e' : c = z ∨ c = TI ∨ c = TO ∨ c = i1 ∨ c = i2 := by simpa using hc
    rcases e' with q | q | q | q | q
    · rw [q]; exact ⟨_, hz, fun v q => nomatch q⟩
    · rw [q]; exact ⟨_, hTI, fun v q => nomatch q⟩
    · rw [q]; exact ⟨_, hTO, fun v q => nomatch q⟩
    · rw [q]; exact h1.obj
    · rw [q]; exact h2.obj
  keep := fun i h h' st k => by
    obtain ⟨hz, hTI, ⟨x, y, hTO⟩, h1, h2⟩ := st
    exact ⟨k z (by simp) _ hz, k TI (by simp) _ hTI, ⟨x, y, k TO (by simp) _ hTO⟩, h1.at fun o q => k i1 (by simp) o q, h2.at fun o q => k i2 (by simp) o q⟩
  item := by
    intro X hP hw hK hc i pins s σ H E I hf st hg
    subst hP hw hK
    obtain ⟨hz, hTI, ⟨x0, y0, hTO⟩, h1, h2⟩ := st
    obtain ⟨xs, ys, x, y, hqx, hqy, hx, hy⟩ := hg
    obtain ⟨its, rv, p, _, la⟩ := inv_sq I hqx
    obtain ⟨its2, rv2, p2, _, lb⟩ := inv_sq I hqy
    obtain ⟨u, hu, ru⟩ := rv.get hx
    obtain ⟨u2, hu2, ru2⟩ := rv2.get hy
    have hzl : z < s.heap.objs.size := Heap.lt_size hz
    have lx : i < its.length := (List.getElem?_eq_some_iff.mp hu).1
    have ly : i < its2.length := (List.getElem?_eq_some_iff.mp hu2).1
    have hh : X.A.in1.handled = none := I.ok.hd hc
    refine wpAny_pyNext_zipD2_item D (draws_sel t1 hh i1 a na its.toArray) (draws_sel t2 hh i2 b nb its2.toArray) hz hTI hTO ⟨h1, p⟩ ⟨h2, p2⟩ (by simpa using lx) (by simpa using ly) fun x1 x2 h' tk e1 e2 z' TO' h1' h2' hT hsz hk => ?_
    have ex1 : x1 = u := by
      have q : its.toArray[i]? = some u := by simpa using hu
      rw [q] at e1
      exact (Option.some.inj e1).symm
    have ex2 : x2 = u2 := by
      have q : its2.toArray[i]? = some u2 := by simpa using hu2
      rw [q] at e2
      exact (Option.some.inj e2).symm
    subst ex1 ex2
    refine ⟨_, rfl, wpAny_letOwnedTupleGo_zip (s := { s with heap := h', toks := tk }) z' fun h'' z'' sb => ?_⟩
    have hT2 : h''.get? s.heap.objs.size = some { cls := .type "tuple", data := .seq #[x1, x2] } := (sb.2 _ (Nat.ne_of_gt hzl)).trans hT
    have new : ObjOk X.prog X.w (upd H s.heap.objs.size (.tup [x, y])) h'' s.heap.objs.size (.tup [x, y]) :=
      ⟨by show 2 ≤ sizeLine; decide, [x1, x2], .cons ru (.cons ru2 .nil), ⟨_, hT2, rfl, _, rfl⟩⟩
    have I1 : Inv X pins σ (upd H s.heap.objs.size (.tup [x, y])) { s with heap := h'', toks := tk } :=
      I.turnedNew (t' := tk) (ch := [z, TI, TO, i1, i2]) (fun c o hb q => (sb.2 c (fun q' => hb (by simp [q']))).trans (hk c o (fun q' => hb (by simp [q'])) (fun q' => hb (by simp [q'])) (fun q' => hb (by simp [q'])) (fun q' => hb (by simp [q'])) q)) hf (Nat.le_refl _) new
    refine ⟨.ref s.heap.objs.size, _, I1, rfl, ⟨_, x, y, rfl, I.hok.fresh (Nat.le_refl _), rfl, fun l hl => by rw [inv_inj I hl hqx]; exact hx, fun l hl => by rw [inv_inj I hl hqy]; exact hy⟩, ⟨z'', ?_, ⟨x1, x2, ?_⟩, ?_, ?_⟩, fun c hcm => ?_⟩
    · exact (sb.2 _ D.TIz).trans (hk _ _ D.TIz D.TITO D.TIi1 D.TIi2 hTI)
    · exact (sb.2 _ D.TOz).trans TO'
    · exact h1'.1.at fun o q => (sb.2 _ (Ne.symm D.zi1)).trans q
    · exact h2'.1.at fun o q => (sb.2 _ (Ne.symm D.zi2)).trans q
    · have hlt : c < s.heap.objs.size := by
        have e' : c = z ∨ c = TI ∨ c = TO ∨ c = i1 ∨ c = i2 := by simpa using hcm
        rcases e' with q | q | q | q | q
        · rw [q]; exact hzl
        · rw [q]; exact Heap.lt_size hTI
        · rw [q]; exact Heap.lt_size hTO
        · rw [q]; obtain ⟨_, e1, _⟩ := h1.obj; exact Heap.lt_size e1
        · rw [q]; obtain ⟨_, e2, _⟩ := h2.obj; exact Heap.lt_size e2
      rw [upd_ne (Nat.ne_of_lt hlt)]
      exact (hf c hcm).1
  done := by
    intro X hP hw hK hc i pins s σ H E I hf st hg
    subst hP hw hK
    obtain ⟨hz, hTI, ⟨x0, y0, hTO⟩, h1, h2⟩ := st
    obtain ⟨xs, ys, hqx, hqy, lx, ly, hend⟩ := hg
    obtain ⟨its, rv, p, _, la⟩ := inv_sq I hqx
    obtain ⟨its2, rv2, p2, _, lb⟩ := inv_sq I hqy
    have l1 := rv.length
    have l2 := rv2.length
    have hh : X.A.in1.handled = none := I.ok.hd hc
    refine wpAny_pyNext_zipD2_end D (draws_sel t1 hh i1 a na its.toArray) (draws_sel t2 hh i2 b nb its2.toArray) hz hTI hTO ⟨h1, p⟩ ⟨h2, p2⟩ (by simp; omega) (by simp; omega) (by simp; omega) fun h' tk hk => ?_
    exact ⟨rfl, I.turnedL (t' := tk) (ch := [z, TI, TO, i1, i2]) (fun c o hb q =>
      hk c o (fun q' => hb (by simp [q'])) (fun q' => hb (by simp [q'])) (fun q' => hb (by simp [q'])) (fun q' => hb (by simp [q'])) q) hf⟩
  self := fun A i s Q E st h => wpAny_pyIter_zip st.1 h
def beginsO (t : Bool) (a : Addr) : Obj := match t with
  | false => { cls := .type "list_iterator", data := .fields #[.ref a, .int 0 0] }
  | true => { cls := .type "tuple_iterator", data := .fields #[.ref a, .int 0 0] }
theorem begins_sel (t : Bool) (a : Addr) (items : Array Value) : Begins (.ref a) (beginsO t a) fun h => IsA t h a items := by
  cases t
  · exact begins_list a items
  · exact begins_tuple a items
theorem ItA.begin {t : Bool} {h : Heap} {it a : Addr} (e : h.get? it = some (beginsO t a)) : ItA t h it a 0 := by
  cases t
  · exact ⟨_, e, rfl, rfl⟩
  · exact ⟨_, e, rfl, rfl⟩
def iZipX (K : PySem.W.Frag) (ta : TA) : TI := fun σ H R => ta σ H fun vs H1 => ∃ t1 t2 a b xs ys, vs = [.ref a, .ref b] ∧ SqA K t1 H1 a xs ∧ SqA K t2 H1 b ys ∧ R (ItzA K t1 t2 a b) H1
theorem pi_zipX {X : Cx} {e e2 : Expr} {ta : TA} {p pos tpos : Pos} {elts : List Expr} {kk : Nat} (hg : Gl X "zip") (hm : X.mg "zip" = none) (ha : PA X [e, e2] ta)
    (hs : starEach [e, e2] X.env = (false, eval e X.env) :: starEach [e2] X.env := by rfl) (hpl : (backTo pos (starEach [e2] X.env)).any (·.1) = false := by rfl) :
    PI X (.Tuple elts kk tpos) (.Call (.Name "zip" p) [e, e2] [] pos) (iZipX X.K ta) := by
  refine ⟨fun pins s σ H R I h => ?_⟩
  refine Call_ (ld_blt I hg hm PyProof.Rows.boot_zip (PyProof.Rows.callWith_type1 (thn (ha.run pos pins s σ H _ I h) fun us s1 ⟨vs, H1, I1, r1, q1⟩ => ?_) hs hpl))
  obtain ⟨t1, t2, a, b, xs, ys, ex, hqx, hqy, q⟩ := q1
  subst ex
  cases r1 with
  | cons r rr =>
    cases rr with
    | cons r' rr =>
      cases rr
      cases r
      cases r'
      obtain ⟨its, rv, p1, _, la⟩ := inv_sq I1 hqx
      obtain ⟨its2, rv2, p2, _, lb⟩ := inv_sq I1 hqy
      refine zip_begins2 (begins_sel t1 a its.toArray) (begins_sel t2 b its2.toArray) p1 p2 fun h' hz hTI hTO h1 h2 hsz hk => wpAny_pyIter_zip hz ?_
      have I2 : Inv X pins σ H1 { s1 with heap := h' } := I1.kept (t' := s1.toks) hk
      have S := zip_sep2 (N := s1.heap.objs.size) (fp1 := [a]) (fp2 := [b]) (by simpa using la) (by simpa using lb)
      refine ⟨s1.heap.objs.size + 4, [s1.heap.objs.size + 4, s1.heap.objs.size + 2, s1.heap.objs.size + 3, s1.heap.objs.size, s1.heap.objs.size + 1], _, _, H1, rfl, I2, turn_zipA t1 t2 S (Nat.ne_of_lt la) (Nat.ne_of_lt (Nat.lt_succ_of_lt lb)), ⟨hz, hTI, ⟨_, _, hTO⟩, .begin h1, .begin h2⟩, fun c hcm => ?_, q⟩
      have e' : c = s1.heap.objs.size + 4 ∨ c = s1.heap.objs.size + 2 ∨ c = s1.heap.objs.size + 3 ∨ c = s1.heap.objs.size ∨ c = s1.heap.objs.size + 1 := by simpa using hcm
      have hle : s1.heap.objs.size ≤ c := by
        rcases e' with z | z | z | z | z
        · rw [z]; exact Nat.le_add_right _ _
        · rw [z]; exact Nat.le_add_right _ _
        · rw [z]; exact Nat.le_add_right _ _
        · rw [z]; exact Nat.le_refl _
        · rw [z]; exact Nat.le_add_right _ _
      exact I1.fpOk hle (I1.hok.fresh hle)
/-! ### enumerate -/
open AutoSeq1 (wpAny_loadPart') in
theorem meets_enumerate_newT (l : Addr) (items : Array Value) (o : Obj) :
    Meets (Builtin.«enumerate.__new__» ⟨[.type "enumerate", .ref l], []⟩) (fun _ R s => (s.heap.get? l = some o ∧ s.heap.IsTuple l items) ∧
      R (.ok (.ret (.ref (s.heap.push { cls := .type "tuple_iterator", data := .fields #[.ref l, .int 0 0] }).objs.size)))
        { s with heap := (s.heap.push { cls := .type "tuple_iterator", data := .fields #[.ref l, .int 0 0] }).push { cls := .type "enumerate", data := .fields #[.none, .bool false, .ref s.heap.objs.size, rawInt 0, .none, .none] } }) :=
  .of_wp fun prog w A R s h => by
    obtain ⟨hp, g, d, tk, os⟩ := s; obtain ⟨⟨hl, hL⟩, h⟩ := h
    have hsub := sub_enumerate
    wp_walk using wpAny_loadPart' hl
    refine wpAny_stack_any fun st => wpAny_pure ?_
    split
    · rename_i c _ _ _ _ _
      cases (c == Value.type "enumerate")
      · wp_walk using wpAny_loadPart' hl, wpAny_pyIter_tuple hL
        exact ⟨_, rfl, h⟩
      · wp_walk using wpAny_loadPart' hl, wpAny_pyIter_tuple hL
        exact ⟨_, rfl, h⟩
    · wp_walk using wpAny_loadPart' hl, wpAny_pyIter_tuple hL
      exact ⟨_, rfl, h⟩
theorem call_enumerate_tuple {prog : Program} {w : World} {A : Around} {E : Value → Shared → Prop} {s : Shared} {l : Addr} {items : Array Value} {Q : Value → Shared → Prop} (hL : s.heap.IsTuple l items)
    (h : ∀ h', IsEnum h' (s.heap.objs.size + 1) s.heap.objs.size 0 .none → h'.IsTupleIter s.heap.objs.size l 0 → h'.objs.size = s.heap.objs.size + 2 →
      (∀ b o, s.heap.get? b = some o → h'.get? b = some o) → Q (.ref (s.heap.objs.size + 1)) { s with heap := h' }) :
    wpAny (model prog w) A (call (.type "enumerate") [.ref l]) Q E s := by
  obtain ⟨o, hl, hr⟩ := id hL
  refine callType_new F.called_enumerate (by decide) (F.typeCall_enumerate_1 _) (F.newCall_enumerate_1 _) (fun obj => F.args_object_init_2 obj _) F.entry_enumerate_new
    (meets_enumerate_newT l items o) ⟨⟨hl, hL⟩, ?_⟩
  have hz : (s.heap.push { cls := .type "tuple_iterator", data := .fields #[.ref l, .int 0 0] }).objs.size = s.heap.objs.size + 1 := Heap.size_push ..
  show _ ∧ _
  rw [hz]
  have he : IsEnum ((s.heap.push { cls := .type "tuple_iterator", data := .fields #[.ref l, .int 0 0] }).push
      { cls := .type "enumerate", data := .fields #[.none, .bool false, .ref s.heap.objs.size, rawInt 0, .none, .none] }) (s.heap.objs.size + 1) s.heap.objs.size 0 .none := by
    have := Heap.get?_push_size (s.heap.push { cls := .type "tuple_iterator", data := .fields #[.ref l, .int 0 0] })
      (o := { cls := .type "enumerate", data := .fields #[.none, .bool false, .ref s.heap.objs.size, rawInt 0, .none, .none] }) rfl
    rw [hz] at this; exact this
  refine ⟨⟨_, he, rfl⟩, h _ he ⟨_, Heap.get?_push_of_some _ (Heap.get?_push_size _ rfl), rfl, rfl⟩ (by rw [Heap.size_push, hz]) fun b o x => Heap.get?_push_of_some _ (Heap.get?_push_of_some _ x)⟩
def IteA (K : PySem.W.Frag) (t : Bool) (a : Addr) : It :=
  ⟨fun i H => ∃ (xs : List V) (x : V), SqA K t H a xs ∧ xs[i]? = some x, fun i H v H' => ∃ T x, v = .ref T ∧ H T = none ∧ H' = upd H T (.tup [.int (i : Nat), x]) ∧ ∀ xs, SqA K t H a xs → xs[i]? = some x, fun i H => ∃ xs : List V, SqA K t H a xs ∧ xs.length = i⟩
theorem turn_enumA {P : Program} {w : World} {K : PySem.W.Frag} {elts : List Expr} {kk : Nat} {tpos : Pos} (t : Bool) (a e it : Addr) (na : a ≠ it) (nea : e ≠ a) :
    Turn P w K (.Tuple elts kk tpos) (IteA K t a) [e, it] e (fun i h => (∃ old, IsEnum h e it ((i : Nat) : Int) old) ∧ ItA t h it a i ∧ e ≠ it) where
  mem := by simp
  obj := fun i h st b hb => by
    obtain ⟨⟨old, he⟩, hi, _⟩ := st
    have e' : b = e ∨ b = it := by simpa using hb
    rcases e' with z | z
    · rw [z]; exact ⟨_, he, fun v q => nomatch q⟩
    · rw [z]; exact hi.obj
  keep := fun i h h' st k => let ⟨⟨old, he⟩, hi, hne⟩ := st; ⟨⟨old, k e (by simp) _ he⟩, hi.at fun o q => k it (by simp) o q, hne⟩
  item := by
    intro X hP hw hK hc i pins s σ H E I hf st hg
    subst hP hw hK
    obtain ⟨⟨old, he⟩, hit, hne⟩ := st
    obtain ⟨xs, x, hq, hx⟩ := hg
    obtain ⟨its, rv, p, hz, la⟩ := inv_sq I hq
    obtain ⟨u, hu, ru⟩ := rv.get hx
    have hel : e < s.heap.objs.size := Heap.lt_size he
    have hil : it < s.heap.objs.size := by obtain ⟨_, q, _⟩ := hit.obj; exact Heap.lt_size q
    have lx : i < its.length := (List.getElem?_eq_some_iff.mp hu).1
    have hh : X.A.in1.handled = none := I.ok.hd hc
    refine wpAny_pyNext_enum_itemD (draws_sel t hh it a na its.toArray) he ⟨hit, p⟩ (by simpa using lx) hne (by simp [hne, nea]) fun x1 h' tk e1 ho hit' hT hsz hk => ?_
    have ex1 : x1 = u := by
      have q : its.toArray[i]? = some u := by simpa using hu
      rw [q] at e1
      exact (Option.some.inj e1).symm
    subst ex1
    refine ⟨_, rfl, wpAny_letOwnedTupleGo_enum (s := { s with heap := h', toks := tk + 1 }) ho fun h'' he' sb => ?_⟩
    have hT2 : h''.get? s.heap.objs.size = some { cls := .type "tuple", data := .seq #[.int i tk, x1] } := (sb.2 _ (Nat.ne_of_gt hel)).trans hT
    have new : ObjOk X.prog X.w (upd H s.heap.objs.size (.tup [.int (i : Nat), x])) h'' s.heap.objs.size (.tup [.int (i : Nat), x]) :=
      ⟨by show 2 ≤ sizeLine; decide, [.int i tk, x1], .cons ⟨_, rfl⟩ (.cons ru .nil), ⟨_, hT2, rfl, _, rfl⟩⟩
    have I1 : Inv X pins σ (upd H s.heap.objs.size (.tup [.int (i : Nat), x])) { s with heap := h'', toks := tk + 1 } :=
      I.turnedNew (t' := tk + 1) (ch := [e, it]) (fun b ob hb q => (sb.2 b (fun z => hb (by simp [z]))).trans (hk b ob (fun z => hb (by simp [z])) (fun z => hb (by simp [z])) q)) hf (Nat.le_refl _) new
    refine ⟨.ref s.heap.objs.size, _, I1, rfl, ⟨_, x, rfl, I.hok.fresh (Nat.le_refl _), rfl, fun ys hy => by rw [inv_inj I hy hq]; exact hx⟩, ⟨⟨x1, ?_⟩, hit'.1.at fun o q => (sb.2 it (Ne.symm hne)).trans q, hne⟩, fun b hb => ?_⟩
    · have e1 : ((i + 1 : Nat) : Int) = (i : Int) + 1 := by omega
      rw [e1]; exact he'
    · have hb' : b < s.heap.objs.size := by
        have e' : b = e ∨ b = it := by simpa using hb
        rcases e' with z | z
        · rw [z]; exact hel
        · rw [z]; exact hil
      rw [upd_ne (Nat.ne_of_lt hb')]
      exact (hf b hb).1
  done := by
    intro X hP hw hK hc i pins s σ H E I hf st hg
    subst hP hw hK
    obtain ⟨⟨old, he⟩, hit, hne⟩ := st
    obtain ⟨xs, hq, hx⟩ := hg
    obtain ⟨its, rv, p, hz, la⟩ := inv_sq I hq
    obtain ⟨f0, f1, f2, f3, f4, f5⟩ := hf it (by simp)
    have hl := rv.length
    have hh : X.A.in1.handled = none := I.ok.hd hc
    have en : its.toArray.size = i := by simp; omega
    refine wpAny_pyNext_enum_endD (draws_sel t hh it a na its.toArray) he ⟨by rw [en]; exact hit, p⟩ fun h' eb => ?_
    exact ⟨rfl, I.turned (t' := s.toks) (fun b o hb q => eb b o hb q) f0 f1 f3 f4 f5⟩
  self := fun A i s Q E st h => let ⟨⟨_, he⟩, _⟩ := st; wpAny_pyIter_enum he h
def iEnumA (K : PySem.W.Frag) (ta : TA) : TI := fun σ H R => ta σ H fun vs H1 => ∃ t a xs, vs = [.ref a] ∧ SqA K t H1 a xs ∧ R (IteA K t a) H1
theorem pi_enumA {X : Cx} {e : Expr} {ta : TA} {p pos tpos : Pos} {elts : List Expr} {kk : Nat} (hg : Gl X "enumerate") (hm : X.mg "enumerate" = none) (ha : PA X [e] ta) (hs : starEach [e] X.env = [(false, eval e X.env)] := by rfl) :
    PI X (.Tuple elts kk tpos) (.Call (.Name "enumerate" p) [e] [] pos) (iEnumA X.K ta) := by
  refine ⟨fun pins s σ H R I h => ?_⟩
  refine Call_ (ld_blt I hg hm boot_enumerate (PyProof.Rows.callWith_type1 (thn (ha.run pos pins s σ H _ I h) fun us s1 ⟨vs, H1, I1, r1, q1⟩ => ?_) hs rfl))
  obtain ⟨t, a, xs, ex, hq, q⟩ := q1
  subst ex
  cases r1 with
  | cons r rr =>
    cases rr
    cases r
    obtain ⟨its, rv, p', hz, la⟩ := inv_sq I1 hq
    have go : ∀ h', IsEnum h' (s1.heap.objs.size + 1) s1.heap.objs.size 0 .none → ItA t h' s1.heap.objs.size a 0 → h'.objs.size = s1.heap.objs.size + 2 →
      (∀ b o, s1.heap.get? b = some o → h'.get? b = some o) → wpAny (model X.prog X.w) X.A (pyIter (.ref (s1.heap.objs.size + 1))) (PIE X pins σ (.Tuple elts kk tpos) R) X.xe { s1 with heap := h' } := fun h' he hit hsz hk => by
      refine wpAny_pyIter_enum he ?_
      have I2 : Inv X pins σ H1 { s1 with heap := h' } := I1.kept (t' := s1.toks) hk
      refine ⟨s1.heap.objs.size + 1, [s1.heap.objs.size + 1, s1.heap.objs.size], _, _, H1, rfl, I2, turn_enumA t a (s1.heap.objs.size + 1) s1.heap.objs.size (Nat.ne_of_lt la) (Nat.ne_of_gt (Nat.lt_succ_of_lt la)), ⟨⟨.none, he⟩, hit, Nat.succ_ne_self _⟩, fun b hb => ?_, q⟩
      have e' : b = s1.heap.objs.size + 1 ∨ b = s1.heap.objs.size := by simpa using hb
      have hle : s1.heap.objs.size ≤ b := by
        rcases e' with z | z
        · rw [z]; exact Nat.le_add_right _ _
        · rw [z]; exact Nat.le_refl _
      exact I1.fpOk hle (I1.hok.fresh hle)
    cases t
    · exact call_enumerate_list p' fun h' he hit hsz hk => go h' he hit hsz hk
    · exact call_enumerate_tuple p' fun h' he hit hsz hk => go h' he hit hsz hk

/-! ### over data -/
section
variable {B : ObjB} {X : Cx} {c : Ctx B} {pos : Pos} {K : PySem.W.Frag} {M : Hp}
theorem Rep.itemsS {v : V} {x : D} {xs : List D} (r : Rep K M v x) (e : itemsOf x = some xs) : ∃ t p vs, v = .ref p ∧ SqA K t M p vs ∧ Reps K M vs xs := by
  obtain ⟨p, vs, e, h | h, r⟩ := r.itemsM e
  · exact ⟨false, p, vs, e, h, r⟩
  · exact ⟨true, p, vs, e, h, r⟩
theorem sqA_same {t : Bool} {M M' : Hp} (s : Same M M') {a : Addr} {xs : List V} (h : SqA K t M a xs) : SqA K t M' a xs := by
  cases t
  · exact s.seq h
  · exact sqT_same s h
def zipD : List D → List D → List D
  | x :: xs, y :: ys => .tuple [x, y] :: zipD xs ys
  | _, _ => []
theorem zipD_get : ∀ (xs ys : List D) (i : Nat), (zipD xs ys)[i]? = (match xs[i]?, ys[i]? with
    | some x, some y => some (.tuple [x, y])
    | _, _ => none)
  | x :: xs, y :: ys, 0 => rfl
  | x :: xs, y :: ys, i + 1 => by simp only [zipD, List.getElem?_cons_succ]; exact zipD_get xs ys i
  | [], ys, i => by simp [zipD]
  | x :: xs, [], i => by
    simp only [zipD, List.getElem?_nil]
    cases (x :: xs)[i]? <;> rfl
theorem zipD_length : ∀ (xs ys : List D), (zipD xs ys).length = min xs.length ys.length
  | x :: xs, y :: ys => by simp only [zipD, List.length_cons, zipD_length xs ys]; omega
  | [], ys => by simp [zipD]
  | x :: xs, [] => by simp [zipD]
theorem walk_zip {t1 t2 : Bool} {a b : Addr} {vs ws : List V} {xs ys : List D} (h1 : SqA K t1 M a vs) (r1 : Reps K M vs xs) (h2 : SqA K t2 M b ws) (r2 : Reps K M ws ys) : WalkJ K M (ItzA K t1 t2 a b) (zipD xs ys) where
  go := fun i H M' d k s e => by
    rw [zipD_get] at e
    split at e
    · rename_i x y ex ey
      cases e
      obtain ⟨v, hv, rv⟩ := r1.get ex
      obtain ⟨w, hw, rw'⟩ := r2.get ey
      have g1 := sqA_same (s.trans k.same) h1
      have g2 := sqA_same (s.trans k.same) h2
      refine ⟨⟨vs, ws, v, w, g1, g2, hv, hw⟩, fun z H' q => ?_⟩
      obtain ⟨T, v', w', rfl, hT, rfl, q1, q2⟩ := q
      have e1 := q1 vs g1
      have e2 := q2 ws g2
      rw [hv] at e1; cases e1
      rw [hw] at e2; cases e2
      exact ⟨_, .alloc k hT rfl, .newT (k.free hT) (.cons (rv.same s) (.cons (rw'.same s) .nil))⟩
    · cases e
  stop := fun H M' k s => by
    refine ⟨vs, ws, sqA_same (s.trans k.same) h1, sqA_same (s.trans k.same) h2, ?_, ?_, ?_⟩
    · rw [zipD_length, r1.length]; omega
    · rw [zipD_length, r2.length]; omega
    · rw [zipD_length, r1.length, r2.length]; omega
def iZipD (f : Env B → R (List D)) : Env B → R (List D) := fun ρ => (f ρ).bind fun xs => match xs with
  | [x, y] => (toItems x).bind fun xs => (toItems y).bind fun ys => .ok (zipD xs ys)
  | _ => .stuck
theorem di_zip {e e2 : Expr} {fa : Env B → R (List D)} {p tpos : Pos} {elts : List Expr} {kk : Nat} (K : c.K = X.K) (hm : X.mg "zip" = none) (ha : DA X c [e, e2] fa) (hg : Gl X "zip" := by rfl)
    (hs : starEach [e, e2] X.env = (false, eval e X.env) :: starEach [e2] X.env := by rfl) (hpl : (backTo pos (starEach [e2] X.env)).any (·.1) = false := by rfl) :
    DI X c (.Tuple elts kk tpos) (.Call (.Name "zip" p) [e, e2] [] pos) (iZipD fa) := by
  refine ⟨PI.imp (pi_zipX hg hm ha.pa hs hpl) fun σ H Q ⟨I, M, ρ, e, q⟩ => ?_⟩
  refine ⟨I, M, ρ, e, RD.mono q.bind fun x hx v H1 M1 k1 e1 r1 => ?_⟩
  split at hx
  · obtain ⟨xs, hxs, hx⟩ := toItems_rd hx.bind
    obtain ⟨ys, hys, hx⟩ := toItems_rd hx.bind
    cases r1 with
    | cons r1 r2 =>
      cases r2 with
      | cons r2 r3 =>
        cases r3
        obtain ⟨t1, a, vs, rfl, s1, q1⟩ := r1.itemsS hxs
        obtain ⟨t2, b, ws, rfl, s2, q2⟩ := r2.itemsS hys
        rw [← K]
        exact ⟨t1, t2, a, b, vs, ws, rfl, sqA_same e1.mok.same s1, sqA_same e1.mok.same s2, hx _ _ _ k1 e1 (walk_zip s1 q1 s2 q2)⟩
  · exact hx.elim
def enumFrom : Nat → List D → List D
  | _, [] => []
  | n, x :: xs => .tuple [.int n, x] :: enumFrom (n + 1) xs
theorem enumFrom_get : ∀ (xs : List D) (n i : Nat), (enumFrom n xs)[i]? = (xs[i]?).map fun x => PyData.tuple [.int (n + i : Nat), x]
  | [], n, i => by simp [enumFrom]
  | x :: xs, n, 0 => rfl
  | x :: xs, n, i + 1 => by
    simp only [enumFrom, List.getElem?_cons_succ]
    rw [enumFrom_get xs (n + 1) i]
    rw [show n + 1 + i = n + (i + 1) by omega]
theorem enumFrom_length : ∀ (xs : List D) (n : Nat), (enumFrom n xs).length = xs.length
  | [], n => rfl
  | x :: xs, n => by simp [enumFrom, enumFrom_length xs]
theorem walk_enum {t : Bool} {a : Addr} {vs : List V} {xs : List D} (h1 : SqA K t M a vs) (r1 : Reps K M vs xs) : WalkJ K M (IteA K t a) (enumFrom 0 xs) where
  go := fun i H M' d k s e => by
    rw [enumFrom_get] at e
    simp only [Option.map_eq_some_iff] at e
    obtain ⟨x, ex, rfl⟩ := e
    obtain ⟨v, hv, rv⟩ := r1.get ex
    have g1 := sqA_same (s.trans k.same) h1
    refine ⟨⟨vs, v, g1, hv⟩, fun z H' q => ?_⟩
    obtain ⟨T, v', rfl, hT, rfl, q1⟩ := q
    have e1 := q1 vs g1
    rw [hv] at e1; cases e1
    rw [show 0 + i = i by omega]
    exact ⟨_, .alloc k hT rfl, .newT (k.free hT) (.cons (.int _) (.cons (rv.same s) .nil))⟩
  stop := fun H M' k s => ⟨vs, sqA_same (s.trans k.same) h1, by rw [enumFrom_length]; exact r1.length⟩
def iEnumD (f : Env B → R (List D)) : Env B → R (List D) := fun ρ => (f ρ).bind fun xs => match xs with
  | [x] => (toItems x).bind fun xs => .ok (enumFrom 0 xs)
  | _ => .stuck
theorem di_enum {e : Expr} {fa : Env B → R (List D)} {p tpos : Pos} {elts : List Expr} {kk : Nat} (K : c.K = X.K) (hm : X.mg "enumerate" = none) (ha : DA X c [e] fa) (hg : Gl X "enumerate" := by rfl) (hs : starEach [e] X.env = [(false, eval e X.env)] := by rfl) :
    DI X c (.Tuple elts kk tpos) (.Call (.Name "enumerate" p) [e] [] pos) (iEnumD fa) := by
  refine ⟨PI.imp (pi_enumA hg hm ha.pa hs) fun σ H Q ⟨I, M, ρ, e, q⟩ => ?_⟩
  refine ⟨I, M, ρ, e, RD.mono q.bind fun x hx v H1 M1 k1 e1 r1 => ?_⟩
  split at hx
  · obtain ⟨xs, hxs, hx⟩ := toItems_rd hx.bind
    cases r1 with
    | cons r1 r2 =>
      cases r2
      obtain ⟨t1, a, vs, rfl, s1, q1⟩ := r1.itemsS hxs
      rw [← K]
      exact ⟨t1, a, vs, rfl, sqA_same e1.mok.same s1, hx _ _ _ k1 e1 (walk_enum s1 q1)⟩
  · exact hx.elim
/-- reversed(list) -/
theorem walk_rev {a : Addr} {vs : List V} {xs : List D} (h1 : SqL K M a vs) (r1 : Reps K M vs xs) : WalkJ K M (Itv K a vs.length) xs.reverse where
  go := fun i H M' d k s e => by
    have hi : i < xs.length := by
      have := (List.getElem?_eq_some_iff.mp e).1
      simpa using this
    rw [List.getElem?_reverse hi] at e
    obtain ⟨v, hv, rv⟩ := r1.get e
    have g1 := (s.trans k.same).seq h1
    have hl := r1.length
    rw [← hl] at hv
    refine ⟨⟨by omega, vs, v, g1, hv⟩, fun z H' q => ?_⟩
    obtain ⟨rfl, q⟩ := q
    have e1 := q vs g1
    rw [hv] at e1; cases e1
    exact ⟨M', .refl k, rv.same s⟩
  stop := fun H M' k s => by
    show vs.length ≤ xs.reverse.length
    rw [List.length_reverse, r1.length]
    exact Nat.le_refl _
def iRevD (f : Env B → R (List D)) : Env B → R (List D) := fun ρ => (f ρ).bind fun xs => match xs with
  | [.list xs] => .ok xs.reverse
  | _ => .stuck
theorem di_rev {tg e : Expr} {fa : Env B → R (List D)} {p : Pos} (K : c.K = X.K) (hm : X.mg "reversed" = none) (ha : DA X c [e] fa) (hg : Gl X "reversed" := by rfl) (hs : starEach [e] X.env = [(false, eval e X.env)] := by rfl) :
    DI X c tg (.Call (.Name "reversed" p) [e] [] pos) (iRevD fa) := by
  refine ⟨PI.imp (pi_reversed hg hm ha.pa hs) fun σ H Q ⟨I, M, ρ, e, q⟩ => ?_⟩
  refine ⟨I, M, ρ, e, RD.mono q.bind fun x hx v H1 M1 k1 e1 r1 => ?_⟩
  split at hx
  · cases r1 with
    | cons r1 r2 =>
      cases r2
      cases r1 with
      | lst h r =>
        rw [← K]
        exact ⟨_, _, rfl, SqL.of (e1.mok.same _ _ h), hx _ _ _ k1 e1 (walk_rev (SqL.of h) r)⟩
  · exact hx.elim
end
end PL

set_option Elab.async false
set_option linter.all false
set_option maxRecDepth 100000
set_option maxHeartbeats 4000000
/-! comprehensions, fresh lists -/
namespace PL
open PySem PySem.Spec PyProof.Rows L2
section
variable {B : ObjB} {X : Cx} {c : Ctx B} {pos : Pos} {K : PySem.W.Frag} {I : Ent} {M H M' H' : Hp} {σ σ' : L2.St} {ρ ρ' : Env B}

/-! ### fresh lists -/
def PostL (c : Ctx B) (I : Ent) (M H : Hp) (σ : L2.St) (ρ : Env B) (Q : VK) (ds : List D) : Prop := ∀ l vs H' M', Step I.b M H M' H' → EnvR c.K I M' H' σ ρ → H' l = some (.lst vs) → M' l = none → H l = none → Reps c.K M' vs ds → Q (.ref l) H'
def tDL (c : Ctx B) (f : Env B → R (List D)) : TE := fun σ H Q => ∃ I M ρ, EnvR c.K I M H σ ρ ∧ RD c I (f ρ) (PostL c I M H σ ρ Q)
structure DL (X : Cx) (c : Ctx B) (e : Expr) (f : Env B → R (List D)) : Prop where
  pe : PE X e (tDL c f)
theorem EnvR.ownThere {K : PySem.W.Frag} (e : EnvR K I M H σ ρ) {j : Nat} {es : List D} (h : ρ[j]? = some (.own es)) {l : Addr} (n : H l = none) : σ[j]? ≠ some (some (.ref l)) := fun z => by
  obtain ⟨l', vs, a, hl, _⟩ := e.slots j _ h
  rw [a] at z
  cases z
  rw [n] at hl
  cases hl
def eL (f : Env B → R (List D)) : Env B → R D := fun ρ => (f ρ).bind fun ds => .ok (.list ds)
theorem de_l {e : Expr} {f : Env B → R (List D)} (h : DL X c e f) : DE X c e (eL f) := by
  refine ⟨PE.imp h.pe fun σ H Q ⟨I, M, ρ, e, q⟩ => ?_⟩
  refine ⟨I, M, ρ, e, q.bind.mono fun ds hx l vs H1 M1 k1 e1 hl ml nl r => ?_⟩
  have il : I.H l = none := e.ent.free nl
  have e2 := e1.adopt (o := .lst vs) hl rfl ml il fun j es hj => fun z => e.ownThere hj nl z
  refine hx _ H1 _ ⟨k1.k, k1.m.trans (upd_same_of ml), fun a o h n => ?_⟩ e2 (.newL ml r)
  by_cases z : a = l
  · subst z; exact nl
  · rw [upd_ne z] at h; exact k1.new a o h n
/-- a display, list(x), [x] * n, list(range(n)) -/
def lDisp (f : Env B → R (List D)) : Env B → R (List D) := fun ρ => (f ρ).bind fun xs => if xs.length ≤ 1000 then .ok xs else .stuck
theorem fresh_end {I : Ent} {M0 H0 M H : Hp} {σ : L2.St} {ρ : Env B} {Q : VK} {ds : List D} (h : PostL c I M0 H0 σ ρ Q ds) (k : Step I.b M0 H0 M H) (e : EnvR c.K I M H σ ρ) {vs : List V} (r : Reps c.K M vs ds) : ∀ p, H p = none → Q (.ref p) (upd H p (.lst vs)) := fun p hp => by
  have mp := e.mok.free hp
  have sm : Same H (upd H p (.lst vs)) := upd_same_of hp
  have e2 : EnvR c.K I M (upd H p (.lst vs)) σ ρ := by
    refine e.grow ⟨sm, Same.refl _, fun a o h => ?_, (fun a o h n => by rw [h] at n; cases n), (fun a o h n => by rw [h] at n; cases n)⟩
    exact ⟨sm _ _ (e.mok a o h).1, (e.mok a o h).2⟩
  exact h p vs _ M (k.trans ⟨.of sm, Same.refl _, fun a o h n => by rw [h] at n; cases n⟩) e2 upd_same mp (k.k.free hp) r
theorem dl_lst {es : List Expr} {f : Env B → R (List D)} (h : DA X c es f) : DL X c (.List es pos) (lDisp f) := by
  refine ⟨PE.imp (pe_lst h.pa) fun σ H Q ⟨I, M, ρ, e, q⟩ => ?_⟩
  refine ⟨I, M, ρ, e, q.bind.mono fun x hx vs H1 M1 k1 e1 r1 => ?_⟩
  split at hx
  · rename_i hl
    exact ⟨by rw [r1.length]; exact le_line hl, fresh_end hx k1 e1 r1⟩
  · exact hx.elim
def lList (f : Env B → R (List D)) : Env B → R (List D) := fun ρ => (f ρ).bind fun xs => match xs with
  | [x] => toItems x
  | _ => .stuck
theorem dl_list {e : Expr} {es : List Expr} {f : Env B → R (List D)} {p : Pos} (K : c.K = X.K) (hm : X.mg "list" = none) (ha : DA X c (e :: es) f) (hg : Gl X "list" := by rfl) (he : starEach (e :: es) X.env = (false, eval e X.env) :: starEach es X.env := by rfl) (hpl : (backTo pos (starEach es X.env)).any (·.1) = false := by rfl) :
    DL X c (.Call (.Name "list" p) (e :: es) [] pos) (lList f) := by
  refine ⟨PE.imp (pe_callTy call_list_of hg hm boot_listT ha.pa (he := he) (hpl := hpl)) fun σ H Q ⟨I, M, ρ, e, q⟩ => ?_⟩
  refine ⟨I, M, ρ, e, q.bind.mono fun x hx v H1 M1 k1 e1 r1 => ?_⟩
  split at hx
  · obtain ⟨xs, hxs, hx⟩ := toItems_rd hx
    cases r1 with
    | cons r1 r2 =>
      cases r2
      obtain ⟨p, vs, rfl, hs, rr⟩ := r1.items e1.mok hxs
      rw [← K]
      exact ⟨_, _, rfl, hs, fresh_end hx k1 e1 rr⟩
  · exact hx.elim
def lRep (f g : Env B → R D) : Env B → R (List D) := fun ρ => (f ρ).bind fun x => (g ρ).bind fun y => match x, y with
  | .list xs, .int k => if 0 ≤ k ∧ k ≤ 1000 ∧ xs.length ≤ 100 then .ok (List.replicate k.toNat xs).flatten else .stuck
  | _, _ => .stuck
theorem dl_rep {a b : Expr} {f g : Env B → R D} (ha : DE X c a f) (hb : DE X c b g) : DL X c (.BinOp a .Mult b pos) (lRep f g) := by
  refine ⟨PE.imp (pe_op op_rep ha.pe hb.pe) fun σ H Q ⟨I, M, ρ, e, q⟩ => ?_⟩
  refine ⟨I, M, ρ, e, q.bind.mono fun x hx v H1 M1 k1 e1 r1 => ?_⟩
  refine ⟨I, M1, ρ, e1, hx.bind.mono fun y hy u H2 M2 k2 e2 r2 => ?_⟩
  split at hy
  · split at hy
    · rename_i hs
      obtain ⟨h1, h2, h3⟩ := hs
      cases r2
      cases r1.same k2.m with
      | lst h r =>
        refine ⟨_, _, _, rfl, rfl, e2.mok.same _ _ h, by omega, by omega, ?_, fresh_end hy (k1.trans k2) e2 (r.rep _)⟩
        rw [r.length]
        exact Nat.le_trans (Nat.mul_le_mul h3 (Int.toNat_le.mpr (by omega : _ ≤ ((1000 : Nat) : Int)))) (by decide)
    · exact hy.elim
  · exact hy.elim

/-! ### the environment of a block -/
def wipeE (ρ : Env B) : List Nat → Env B
  | [] => ρ
  | v :: vs => (wipeE ρ vs).set v .no
theorem wipeE_length : ∀ vs : List Nat, (wipeE ρ vs).length = ρ.length
  | [] => rfl
  | v :: vs => by unfold wipeE; rw [List.length_set, wipeE_length vs]
theorem EnvR.wipe (e : EnvR K I M H σ ρ) : ∀ vs : List Nat, EnvR K I M H (L2.wipe σ vs) (wipeE ρ vs)
  | [] => e
  | v :: vs => by unfold L2.wipe wipeE; exact (EnvR.wipe e vs).setNo
theorem wipeE_at (ρ : Env B) : ∀ (vs : List Nat) (j : Nat), (wipeE ρ vs)[j]? = if j ∈ vs then (if j < ρ.length then some .no else none) else ρ[j]?
  | [], j => by simp [wipeE]
  | v :: vs, j => by
    unfold wipeE
    by_cases hv : v = j
    · subst hv
      by_cases hl : v < ρ.length
      · rw [List.getElem?_set_self (by rw [wipeE_length]; exact hl)]
        simp [hl]
      · rw [List.getElem?_eq_none (by rw [List.length_set, wipeE_length]; omega)]
        simp [hl]
    · rw [List.getElem?_set_ne hv, wipeE_at ρ vs j]
      have e : (j ∈ v :: vs) ↔ j ∈ vs := by
        rw [List.mem_cons]
        exact ⟨fun h => h.resolve_left (fun z => hv z.symm), .inr⟩
      by_cases hj : j ∈ vs
      · rw [if_pos hj, if_pos (e.mpr hj)]
      · rw [if_neg hj, if_neg (fun z => hj (e.mp z))]
theorem wipe_at (σ : L2.St) : ∀ (vs : List Nat) (j : Nat), (L2.wipe σ vs)[j]? = if j ∈ vs then (if j < σ.length then some none else none) else σ[j]?
  | [], j => by simp [L2.wipe]
  | v :: vs, j => by
    unfold L2.wipe
    by_cases hv : v = j
    · subst hv
      by_cases hl : v < σ.length
      · rw [List.getElem?_set_self (by rw [L2.wipe_length]; exact hl)]
        simp [hl]
      · rw [List.getElem?_eq_none (by rw [List.length_set, L2.wipe_length]; omega)]
        simp [hl]
    · rw [List.getElem?_set_ne hv, wipe_at σ vs j]
      have e : (j ∈ v :: vs) ↔ j ∈ vs := by
        rw [List.mem_cons]
        exact ⟨fun h => h.resolve_left (fun z => hv z.symm), .inr⟩
      by_cases hj : j ∈ vs
      · rw [if_pos hj, if_pos (e.mpr hj)]
      · rw [if_neg hj, if_neg (fun z => hj (e.mp z))]
theorem wipeE_off {is vs : List Nat} (o : OffE is (wipeE ρ vs) ρ') (s : ∀ j ∈ is, j ∈ vs) : wipeE ρ' vs = wipeE ρ vs := by
  apply List.ext_getElem?
  intro j
  rw [wipeE_at, wipeE_at]
  have hl := o.1
  rw [wipeE_length] at hl
  by_cases hj : j ∈ vs
  · rw [if_pos hj, if_pos hj, hl]
  · rw [if_neg hj, if_neg hj, o.2 j (fun z => hj (s j z)), wipeE_at, if_neg hj]
theorem wipe_off {is vs : List Nat} (o : Off is (L2.wipe σ vs) σ') (s : ∀ j ∈ is, j ∈ vs) : L2.wipe σ' vs = L2.wipe σ vs := by
  apply List.ext_getElem?
  intro j
  rw [wipe_at, wipe_at]
  have hl := o.1
  rw [L2.wipe_length] at hl
  by_cases hj : j ∈ vs
  · rw [if_pos hj, if_pos hj, hl]
  · rw [if_neg hj, if_neg hj, o.2 j (fun z => hj (s j z)), wipe_at, if_neg hj]
/-- no list, no object of the names that the block takes -/
def plainAt (ρ : Env B) (j : Nat) : Bool := match ρ[j]? with
  | some (.own _) => false
  | some (.obj _) => false
  | _ => true
theorem EnvR.unwipe {vs : List Nat} (e : EnvR K I M H σ ρ) (e' : EnvR K I M' H' (L2.wipe σ vs) (wipeE ρ vs)) (s : Same M M') (cl : vs.all (plainAt ρ) = true) : EnvR K I M' H' σ ρ where
  len := e.len
  ent := e'.ent
  msub := e'.msub
  mok := e'.mok
  mem := e'.mem
  mnew := e'.mnew
  slots := fun j s' h => by
    by_cases hj : j ∈ vs
    · have c := List.all_eq_true.mp cl j hj
      unfold plainAt at c
      rw [h] at c
      have q := e.slots j _ h
      cases s' with
      | no => trivial
      | val d => obtain ⟨v, a, r⟩ := q; exact ⟨v, a, r.same s⟩
      | own _ => cases c
      | obj _ => cases c
    · have h1 : (wipeE ρ vs)[j]? = some s' := by rw [wipeE_at, if_neg hj]; exact h
      have q := e'.slots j s' h1
      rw [wipe_at, if_neg hj] at q
      exact q
  apart := e.apart

/-! ### each of some -/
def eachR {α β : Type} (step : α → R (List β)) : List α → R (List β)
  | [] => .ok []
  | d :: r => (step d).bind fun o => (eachR step r).bind fun ys => .ok (o ++ ys)
def lcStep (t : ETg B) (test : Env B → R Bool) (elt : Env B → R D) (ρ : Env B) (d : D) : R (List D) := (noE (t d ρ)).bind fun ρ1 => (noE (test ρ1)).bind fun b => if b = true then (noE (elt ρ1)).bind fun y => .ok [y] else .ok []
def lLc (fi : Env B → R (List D)) (t : ETg B) (test : Env B → R Bool) (elt : Env B → R D) (own : List Nat) : Env B → R (List D) := fun ρ => (fi ρ).bind fun items =>
  if items.length ≤ 100000 ∧ own.all (plainAt ρ) = true then noE (eachR (lcStep t test elt (wipeE ρ own)) items) else .stuck
def tYesD : Env B → R Bool := fun _ => .ok true
structure DTs (X : Cx) (c : Ctx B) (ifs : List Expr) (f : Env B → R Bool) : Prop where
  pts : PTs X ifs (tDT c f)
theorem PTs.imp {X : Cx} {e : List Expr} {t u : TT} (h : PTs X e t) (k : ∀ σ H Q, u σ H Q → t σ H Q) : PTs X e u := ⟨fun pins s σ H Q I q => h.run pins s σ H Q I (k σ H Q q)⟩
theorem dts_nil : DTs X c [] (tYesD : Env B → R Bool) := ⟨PTs.imp pts_nil fun σ H Q ⟨I, M, ρ, e, q⟩ => q H M .refl e⟩
theorem dts_one {e : Expr} {f : Env B → R Bool} (h : DT X c e f) : DTs X c [e] f := ⟨pts_one h.pt⟩
abbrev Ctx.quiet (c : Ctx B) : Ctx B := { c with E := fun _ _ _ => False }
theorem bind_noE {α β : Type} {r : R α} {k : α → R β} {b : β} (h : (noE r).bind k = .ok b) : ∃ a, r = .ok a ∧ k a = .ok b := by
  obtain ⟨a, h1, h2⟩ := R.bind_eq h
  exact ⟨a, noE_ok h1, h2⟩
theorem RD.of_ok {α : Type} {r : R α} {a : α} {P : α → Prop} {c : Ctx B} {I : Ent} (h : r = .ok a) (p : P a) : RD c I r P := by rw [h]; exact p
/-- what a comprehension's reading wants -/
theorem imp_lc {X : Cx} {c : Ctx B} {elt tg : Expr} {own : List Nat} {is : List Nat} {fi : Env B → R (List D)} {t : ETg B} {test : Env B → R Bool} {fe : Env B → R D} (hK : c.K = X.K) (off : ∀ d ρ ρ', t d ρ = .ok ρ' → OffE is ρ ρ') (his : ∀ j ∈ is, j ∈ own) {σ : L2.St} {H : Hp} {Q : VK}
    (q : tDL c (lLc fi t test fe own) σ H Q) : tLc (iD c fi) (gD X.K is t) (tDT c.quiet test) (tD c.quiet fe) own σ H Q := by
  obtain ⟨I, M, ρ, e, q⟩ := q
  refine ⟨I, M, ρ, e, q.bind.mono fun items hx J H1 M1 k1 e1 wj D hD => ?_⟩
  split at hx
  case isFalse => exact hx.elim
  rename_i hc
  obtain ⟨hlen, hcl⟩ := hc
  obtain ⟨fin, hfin, hp⟩ := hx.noE
  have mD : M1 D = none := e1.mok.free hD
  refine ⟨fun i m H => m = items.length - i ∧ i ≤ items.length ∧ ∃ M acc accd rest, Step I.b M1 H1 M H ∧ EnvR c.K I M H σ ρ ∧ H D = some (.lst acc) ∧ M D = none ∧ Reps c.K M acc accd ∧ accd.length ≤ i ∧
    eachR (lcStep t test fe (wipeE ρ own)) (items.drop i) = .ok rest ∧ accd ++ rest = fin, ⟨items.length, by simp, Nat.zero_le _, M1, [], [], fin, ?_, ?_, upd_same, mD, .nil, Nat.le_refl _, by simpa using hfin, rfl⟩, ?_⟩
  · exact ⟨.of (upd_same_of hD), Same.refl _, fun a o h n => by rw [h] at n; cases n⟩
  · refine e1.grow ⟨upd_same_of hD, Same.refl _, fun a o h => ?_, (fun a o h n => by rw [h] at n; cases n), (fun a o h n => by rw [h] at n; cases n)⟩
    exact ⟨upd_same_of hD _ _ (e1.mok a o h).1, (e1.mok a o h).2⟩
  · rintro i m H2 ⟨rfl, hi', M2, acc, accd, rest, k2, e2, hacc, mD2, racc, hal, hrest, hfin2⟩
    by_cases hlt : i < items.length
    · refine .inr ?_
      have ed : items[i]? = some items[i] := by simp [hlt]
      obtain ⟨go, yl⟩ := wj.go i H2 M2 items[i] e2.mok k2.m ed
      have hdrop : items.drop i = items[i] :: items.drop (i + 1) := by rw [List.drop_eq_getElem_cons hlt]
      rw [hdrop] at hrest
      unfold eachR at hrest
      obtain ⟨o, ho, hrest⟩ := R.bind_eq hrest
      obtain ⟨ys, hys, hrest⟩ := R.bind_eq hrest
      cases hrest
      unfold lcStep at ho
      obtain ⟨ρ1, hρ1, ho⟩ := bind_noE ho
      obtain ⟨b, hb, ho⟩ := bind_noE ho
      refine ⟨go, fun H' => ∃ M', Step I.b M1 H1 M' H' ∧ EnvR c.K I M' H' σ ρ ∧ ∃ acc accd, H' D = some (.lst acc) ∧ M' D = none ∧ Reps c.K M' acc accd ∧ accd.length ≤ i + 1 ∧ accd ++ ys = fin, fun H' h' => ?_, fun x H' y => ?_⟩
      · obtain ⟨M', a1, a2, acc', accd', a3, a4, a5, a6, a7⟩ := h'
        exact ⟨items.length - (i + 1), by omega, rfl, hlt, M', acc', accd', ys, a1, a2, a3, a4, a5, a6, hys, a7⟩
      · obtain ⟨M3, g3, r3⟩ := yl x H' y
        have e3 := e2.grow g3
        have k3 : Step I.b M1 H1 M3 H' := k2.trans (.of g3)
        have hacc3 : H' D = some (.lst acc) := g3.h _ _ hacc
        have mD3 : M3 D = none := by
          cases q3 : M3 D with
          | none => rfl
          | some o3 => rw [g3.new D o3 q3 mD2] at hacc; cases hacc
        have racc3 := racc.same g3.m
        have ew := e3.wipe own
        refine ⟨I, M3, wipeE ρ own, items[i], ρ1, hK ▸ ew, hK ▸ r3, hρ1, fun σ2 e4 o4 => ?_⟩
        have w1 := wipe_off o4 his
        have w2 := wipeE_off (off _ _ _ hρ1) his
        refine ⟨w1, ?_⟩
        have e4' : EnvR c.K I M3 H' σ2 ρ1 := hK ▸ e4
        -- back in the def's names
        have back : ∀ {M5 H5 : Hp}, EnvR c.K I M5 H5 σ2 ρ1 → Step I.b M3 H' M5 H5 → EnvR c.K I M5 H5 σ ρ := fun {M5 H5} e5 k5 => by
          have z := e5.wipe own
          rw [w1, w2] at z
          exact e3.unwipe z k5.m hcl
        have keepD : ∀ {M5 H5 : Hp}, Step I.b M3 H' M5 H5 → H5 D = some (.lst acc) ∧ M5 D = none := fun {M5 H5} k5 => by
          refine ⟨k5.k.at hacc3 rfl, ?_⟩
          cases q5 : M5 D with
          | none => rfl
          | some o5 => rw [k5.new D o5 q5 mD3] at hacc3; cases hacc3
        refine ⟨I, M3, ρ1, e4', RD.of_ok hb fun H5 M5 k5 e5 => ?_⟩
        cases b with
        | false =>
          rw [if_neg Bool.false_ne_true] at ho ⊢
          cases ho
          obtain ⟨d1, d2⟩ := keepD k5
          exact ⟨M5, k3.trans k5, back e5 k5, acc, accd, d1, d2, racc3.same k5.m, by omega, hfin2⟩
        | true =>
          rw [if_pos rfl] at ho ⊢
          obtain ⟨y5, hy5, ho⟩ := bind_noE ho
          cases ho
          refine ⟨I, M5, ρ1, e5, RD.of_ok hy5 fun v6 H6 M6 k6 e6 r6 => ?_⟩
          have k56 := k5.trans k6
          obtain ⟨d1, d2⟩ := keepD k56
          refine ⟨acc, d1, ?_, M6, ?_, ?_, acc ++ [v6], accd ++ [y5], upd_same, d2, (racc3.same k56.m).append (.cons r6 .nil), ?_, ?_⟩
          · rw [racc.length]
            exact Nat.lt_of_le_of_lt (Nat.le_trans hal hi') (Nat.lt_of_le_of_lt hlen (by decide))
          · -- the list at D grows
            have k36 := k3.trans k56
            refine ⟨fun a u h => ?_, k36.m, k36.new⟩
            by_cases z : a = D
            · subst z; rw [hD] at h; cases h
            · rw [upd_ne z]; exact k36.k a u h
          · have eb := back e6 k56
            refine ⟨eb.len, fun a u h => ?_, eb.msub, fun a u h => ?_, eb.mem.step fun a o h nl => ?_, eb.mnew, fun j s hj => ?_, eb.apart⟩
            · by_cases z : a = D
              · subst z
                have := e1.ent.free hD
                rw [this] at h; cases h
              · rw [upd_ne z]; exact eb.ent a u h
            · have z : a ≠ D := fun z => by subst z; rw [d2] at h; cases h
              rw [upd_ne z]; exact eb.mok a u h
            · have z : a ≠ D := fun z => by subst z; rw [d1] at h; cases h; cases nl
              rw [upd_ne z]; exact h
            · have q6 := eb.slots j s hj
              cases s with
              | no => trivial
              | val d => exact q6
              | own ds =>
                obtain ⟨l, vs, b1, b2, b3, b4, b5⟩ := q6
                have nl : l ≠ D := fun z => by
                  subst z
                  exact e1.ownThere hj hD b1
                exact ⟨l, vs, b1, by rw [upd_ne nl]; exact b2, b3, b4, b5⟩
              | obj z =>
                obtain ⟨v, b1, b2⟩ := q6
                refine ⟨v, b1, B.mono _ _ _ _ _ _ _ _ b2 (Same.refl _) (fun a o h n => by rw [h] at n; cases n) fun a o h _ ni => ?_⟩
                have nl : a ≠ D := fun z => by
                  subst z
                  rw [d1] at h
                  cases h
                  exact ni.elim (fun z => by cases z) fun z => z (e1.ent.free hD)
                rw [upd_ne nl]; exact h
          · rw [List.length_append, List.length_singleton]; omega
          · rw [List.append_assoc]; exact hfin2
    · have ei : i = items.length := by omega
      subst ei
      refine .inl ⟨wj.stop H2 M2 e2.mok k2.m, ?_⟩
      have er : rest = [] := by
        rw [List.drop_length] at hrest
        cases hrest
        rfl
      subst er
      rw [List.append_nil] at hfin2
      subst hfin2
      exact hp D acc H2 M2 (k1.trans k2) e2 hacc mD2 (k1.k.free hD) racc
/-- [elt for target in iter if ..] -/
theorem dl_lc {elt tg iter : Expr} {ifs : List Expr} {scope : Scope} {own : List (Str × Nat)} {is : List Nat} {fi : Env B → R (List D)} {t : ETg B} {test : Env B → R Bool} {fe : Env B → R D} {k : Nat} (G : Good X c k) (hi : DI X c tg iter fi) (ok : BlkOk X.N X.env.scope scope own)
    (hg : ∀ (s : Shared) (H : Hp) (C : Addr) (cl : List (Str × Addr)) (fp : List Addr), DG (X.blk s H scope (compEnvC scope cl C X.env) fp) tg is t) (his : ∀ j ∈ is, j ∈ own.map (·.2))
    (ht : ∀ (s : Shared) (H : Hp) (C : Addr) (cl : List (Str × Addr)) (fp : List Addr), Good (X.blk s H scope (compEnvC scope cl C X.env) fp) c.quiet k → DTs (X.blk s H scope (compEnvC scope cl C X.env) fp) c.quiet ifs test)
    (he : ∀ (s : Shared) (H : Hp) (C : Addr) (cl : List (Str × Addr)) (fp : List Addr), Good (X.blk s H scope (compEnvC scope cl C X.env) fp) c.quiet k → DE (X.blk s H scope (compEnvC scope cl C X.env) fp) c.quiet elt fe) (hs : ∀ x, foldedSetIterable iter X.env x = pure x := by intro _; rfl) :
    DL X c (.ListComp elt [⟨tg, iter, ifs, 0⟩] scope pos) (lLc fi t test fe (own.map (·.2))) := by
  have good : ∀ (s : Shared) (H : Hp) (C : Addr) (cl : List (Str × Addr)) (fp : List Addr), Good (X.blk s H scope (compEnvC scope cl C X.env) fp) c.quiet k := fun s H C cl fp => ⟨G.K, G.nd, G.calm, G.room, passN⟩
  exact ⟨⟨fun pins s0 σ0 H0 Q0 I0 hq0 => (pe_lc (own := own) (g := gD X.K is t) (tt := tDT c.quiet test) (te := tD c.quiet fe) G.calm G.nd hi.pi ok (fun s H C cl fp => (hg s H C cl fp).pg) (fun s H C cl fp => (ht s H C cl fp (good s H C cl fp)).pts) (fun s H C cl fp => (he s H C cl fp (good s H C cl fp)).pe) hs).run pins s0 σ0 H0 Q0 I0
    (imp_lc (elt := elt) (tg := tg) G.K (hg s0 H0 0 [] []).off his hq0)⟩⟩
/-- y = [..] on one line, y a local: its reading -/
theorem ps_lc {elt tg iter : Expr} {ifs : List Expr} {scope : Scope} {own : List (Str × Nat)} {is : List Nat} {fi : Env B → R (List D)} {t : ETg B} {test : Env B → R Bool} {fe : Env B → R D} {k i : Nat} {y : Str} {py spos : Pos} (G : Good X c k) (hy : X.N[i]? = some y) (hyl : X.env.scope.names.lookup y = some .local)
    (hsw : swapsWith (.ListComp elt [⟨tg, iter, ifs, 0⟩] scope pos) (some (.Name y py)) spos.line X.env = pure true) (hi : DI X c tg iter fi) (ok : BlkOk X.N X.env.scope scope own)
    (hg : ∀ (s : Shared) (H : Hp) (C : Addr) (cl : List (Str × Addr)) (fp : List Addr), DG (X.blk s H scope (compEnvC scope cl C X.env) fp) tg is t) (his : ∀ j ∈ is, j ∈ own.map (·.2))
    (ht : ∀ (s : Shared) (H : Hp) (C : Addr) (cl : List (Str × Addr)) (fp : List Addr), Good (X.blk s H scope (compEnvC scope cl C X.env) fp) c.quiet k → DTs (X.blk s H scope (compEnvC scope cl C X.env) fp) c.quiet ifs test)
    (he : ∀ (s : Shared) (H : Hp) (C : Addr) (cl : List (Str × Addr)) (fp : List Addr), Good (X.blk s H scope (compEnvC scope cl C X.env) fp) c.quiet k → DE (X.blk s H scope (compEnvC scope cl C X.env) fp) c.quiet elt fe) (hs : ∀ x, foldedSetIterable iter X.env x = pure x := by intro _; rfl) :
    PS X (.Assign [.Name y py] (.ListComp elt [⟨tg, iter, ifs, 0⟩] scope pos) spos) (tAsg (tDL c (lLc fi t test fe (own.map (·.2)))) (L2.gName i)) := by
  have good : ∀ (s : Shared) (H : Hp) (C : Addr) (cl : List (Str × Addr)) (fp : List Addr), Good (X.blk s H scope (compEnvC scope cl C X.env) fp) c.quiet k := fun s H C cl fp => ⟨G.K, G.nd, G.calm, G.room, passN⟩
  exact ⟨fun pins s0 σ0 H0 D0 I0 hq0 => (ps_setLc (own := own) (g := gD X.K is t) (tt := tDT c.quiet test) (te := tD c.quiet fe) G.calm G.nd hy hyl hsw hi.pi ok (fun s H C cl fp => (hg s H C cl fp).pg) (fun s H C cl fp => (ht s H C cl fp (good s H C cl fp)).pts) (fun s H C cl fp => (he s H C cl fp (good s H C cl fp)).pe) hs).run pins s0 σ0 H0 D0 I0
    (show tLc _ _ _ _ _ σ0 H0 _ from imp_lc (elt := elt) (tg := tg) G.K (hg s0 H0 0 [] []).off his hq0)⟩
end
end PL

set_option Elab.async false
set_option linter.all false
set_option maxRecDepth 100000
set_option maxHeartbeats 4000000
/-! statements, defs -/
namespace PL
open PySem PySem.Spec PyProof.Rows L2
inductive Fl where
  | nx | bk | ct
  | rt (d : D)
  | rtL (ds : List D)
  | rtP (ds : List D) (d : D)
abbrev GS (B : ObjB) := Env B → R (Fl × Env B)
section
variable {B : ObjB} {X : Cx} {c : Ctx B} {pos : Pos} {K : PySem.W.Frag} {I : Ent} {M H M' H' : Hp} {σ σ' : L2.St} {ρ ρ' : Env B}
def PostS (c : Ctx B) (I : Ent) (M : Hp) (Dn : Ends) (r : Fl × Env B) : Prop := match r.1 with
  | .nx => ∀ σ' H' M', Same M M' → EnvR c.K I M' H' σ' r.2 → Dn.nx σ' H'
  | .bk => ∀ σ' H' M', Same M M' → EnvR c.K I M' H' σ' r.2 → Dn.bk σ' H'
  | .ct => ∀ σ' H' M', Same M M' → EnvR c.K I M' H' σ' r.2 → Dn.ct σ' H'
  | .rt d => ∀ v σ' H' M', Same M M' → EnvR c.K I M' H' σ' r.2 → Rep c.K M' v d → Dn.rt v H'
  | .rtL ds => ∀ l vs σ' H' M', Same M M' → EnvR c.K I M' H' σ' r.2 → H' l = some (.lst vs) → M' l = none → I.H l = none → Reps c.K M' vs ds → Dn.rt (.ref l) H'
  | .rtP ds d => ∀ p l vs v σ' H' M', Same M M' → EnvR c.K I M' H' σ' r.2 → H' p = some (.tup [.ref l, v]) → H' l = some (.lst vs) → M' l = none → I.H l = none → Reps c.K M' vs ds → Rep c.K M' v d → Dn.rt (.ref p) H'
theorem PostS.same {Dn : Ends} {r : Fl × Env B} (h : PostS c I M Dn r) (s : Same M M') : PostS c I M' Dn r := by
  obtain ⟨fl, ρ⟩ := r
  cases fl with
  | nx => exact fun σ' H' M2 s2 e => h σ' H' M2 (s.trans s2) e
  | bk => exact fun σ' H' M2 s2 e => h σ' H' M2 (s.trans s2) e
  | ct => exact fun σ' H' M2 s2 e => h σ' H' M2 (s.trans s2) e
  | rt d => exact fun v σ' H' M2 s2 e r => h v σ' H' M2 (s.trans s2) e r
  | rtL ds => exact fun l vs σ' H' M2 s2 e => h l vs σ' H' M2 (s.trans s2) e
  | rtP ds d => exact fun p l vs v σ' H' M2 s2 e => h p l vs v σ' H' M2 (s.trans s2) e
def tDS (c : Ctx B) (g : GS B) : TS := fun Dn σ H => ∃ I M ρ, EnvR c.K I M H σ ρ ∧ RD c I (g ρ) (PostS c I M Dn)
structure DS (X : Cx) (c : Ctx B) (st : Stmt) (g : GS B) : Prop where
  ps : PS X st (tDS c g)
structure DSs (X : Cx) (c : Ctx B) (sts : List Stmt) (g : GS B) : Prop where
  pss : PSs X sts (tDS c g)

/-! ### blocks -/
def gNil : GS B := fun ρ => .ok (.nx, ρ)
def gSeq (g1 g2 : GS B) : GS B := fun ρ => (g1 ρ).bind fun r => match r with
  | (.nx, ρ1) => g2 ρ1
  | r => .ok r
theorem dss_nil : DSs X c [] (gNil : GS B) := ⟨PSs.imp pss_nil fun Dn σ H ⟨I, M, ρ, e, q⟩ => q σ H M (Same.refl _) e⟩
theorem dss_cons {st : Stmt} {rest : List Stmt} {g1 g2 : GS B} (h : DS X c st g1) (h' : DSs X c rest g2) : DSs X c (st :: rest) (gSeq g1 g2) := by
  refine ⟨PSs.imp (pss_cons h.ps h'.pss) fun Dn σ H ⟨I, M, ρ, e, q⟩ => ?_⟩
  refine ⟨I, M, ρ, e, q.bind.mono fun r hr => ?_⟩
  obtain ⟨fl, ρ1⟩ := r
  cases fl with
  | nx => exact fun σ' H' M' s e' => ⟨I, M', ρ1, e', RD.mono hr fun r2 h2 => h2.same s⟩
  | bk => exact hr
  | ct => exact hr
  | rt d => exact hr
  | rtL ds => exact hr
  | rtP ds d => exact hr
theorem dss_one {st : Stmt} {g : GS B} (h : DS X c st g) : DSs X c [st] g := ⟨pss_one h.ps⟩
/-! ### returns, tests, expressions -/
def gRet (f : Env B → R D) : GS B := fun ρ => (f ρ).bind fun d => .ok (.rt d, ρ)
def gRetL (f : Env B → R (List D)) : GS B := fun ρ => (f ρ).bind fun d => .ok (.rtL d, ρ)
def gRetO (i : Nat) : GS B := fun ρ => match ρ[i]? with
  | some (.own ds) => .ok (.rtL ds, ρ)
  | _ => .stuck
theorem ds_ret {e : Expr} {f : Env B → R D} (h : DE X c e f) : DS X c (.Return (some e) pos) (gRet f) := by
  refine ⟨PS.imp (ps_ret h.pe) fun Dn σ H ⟨I, M, ρ, e, q⟩ => ?_⟩
  exact ⟨I, M, ρ, e, q.bind.mono fun d hd v H' M' k e' r => hd v σ H' M' k.m e' r⟩
theorem ds_retL {e : Expr} {f : Env B → R (List D)} (h : DL X c e f) : DS X c (.Return (some e) pos) (gRetL f) := by
  refine ⟨PS.imp (ps_ret h.pe) fun Dn σ H ⟨I, M, ρ, e, q⟩ => ?_⟩
  exact ⟨I, M, ρ, e, q.bind.mono fun d hd l vs H' M' k e' hl ml nl r => hd l vs σ H' M' k.m e' hl ml (e.ent.free nl) r⟩
theorem ds_retO {i : Nat} {x : Str} {p : Pos} (hN : X.N[i]? = some x) (hv : Vis X.env.scope x) (hd : (x == ("__debug__" : Str)) = false := by decide) (hcd : (x == ("__classdict__" : Str)) = false := by decide) : DS X c (.Return (some (.Name x p)) pos) (gRetO (B := B) i) := by
  refine ⟨PS.imp (ps_ret (pe_var hN hv hd hcd)) fun Dn σ H ⟨I, M, ρ, e, q⟩ => ?_⟩
  unfold gRetO at q
  split at q
  · rename_i ds hi
    obtain ⟨l, vs, a, hl, ml, il, r⟩ := e.slots i _ hi
    exact ⟨_, a, q l vs σ H M (Same.refl _) e hl ml il r⟩
  · exact q.elim
def gIf (t : Env B → R Bool) (g1 g2 : GS B) : GS B := fun ρ => (t ρ).bind fun b => if b = true then g1 ρ else g2 ρ
theorem ds_if {e : Expr} {a b : List Stmt} {t : Env B → R Bool} {g1 g2 : GS B} (ht : DT X c e t) (ha : DSs X c a g1) (hb : DSs X c b g2) : DS X c (.If e a b pos) (gIf t g1 g2) := by
  refine ⟨PS.imp (ps_if ht.pt ha.pss hb.pss) fun Dn σ H ⟨I, M, ρ, e, q⟩ => ?_⟩
  refine ⟨I, M, ρ, e, q.bind.mono fun b hb H' M' k e' => ?_⟩
  cases b with
  | true => exact ⟨I, M', ρ, e', RD.mono hb fun r h => h.same k.m⟩
  | false => exact ⟨I, M', ρ, e', RD.mono hb fun r h => h.same k.m⟩
def gDrop (f : Env B → R D) : GS B := fun ρ => (f ρ).bind fun _ => .ok (.nx, ρ)
theorem ds_expr {e : Expr} {f : Env B → R D} (h : DE X c e f) (hs : swapsWith e none pos.line X.env = pure false := by rfl) : DS X c (.Expr e pos) (gDrop f) := by
  refine ⟨PS.imp (ps_expr h.pe hs) fun Dn σ H ⟨I, M, ρ, e, q⟩ => ?_⟩
  exact ⟨I, M, ρ, e, q.bind.mono fun d hd v H' M' k e' r => hd σ H' M' k.m e'⟩
/-! ### stores -/
def gSet (i : Nat) (f : Env B → R D) : GS B := fun ρ => (f ρ).bind fun d => .ok (.nx, ρ.set i (.val d))
theorem ds_set {i : Nat} {x : Str} {e : Expr} {f : Env B → R D} {pos' : Pos} (hN : X.N.Nodup) (hi : X.N[i]? = some x) (hx : Loc X.env.scope x) (h : DE X c e f) (hs : swapsWith e (some (.Name x pos')) pos.line X.env = pure false := by rfl) (hf : X.fn x = true ∨ X.env.scope.names.lookup x = some .local := by first | exact .inl rfl | exact .inr rfl | assumption) :
    DS X c (.Assign [.Name x pos'] e pos) (gSet i f) := by
  refine ⟨PS.imp (ps_set hN hi hx h.pe hs hf) fun Dn σ H ⟨I, M, ρ, e, q⟩ => ?_⟩
  exact ⟨I, M, ρ, e, q.bind.mono fun d hd v H' M' k e' r => hd _ H' M' k.m (e'.set r)⟩
/-- x = [..], and x is changed later -/
def gOwn (i : Nat) (f : Env B → R (List D)) : GS B := fun ρ => (f ρ).bind fun d => .ok (.nx, ρ.set i (.own d))
theorem own_nx {Dn : Ends} {i : Nat} {ds : List D} {M0 H0 : Hp} (e0 : EnvR c.K I M0 H0 σ ρ) (hd : PostS c I M0 Dn (.nx, ρ.set i (.own ds))) {l : Addr} {vs : List V} (k : Step I.b M0 H0 M H) (e : EnvR c.K I M H σ ρ) (hl : H l = some (.lst vs)) (ml : M l = none) (nl : H0 l = none) (r : Reps c.K M vs ds) : Dn.nx (σ.set i (some (.ref l))) H :=
  hd _ H M k.m (e.setOwn hl ml (e0.ent.free nl) r fun j es _ hj => e0.ownThere hj nl)
theorem ds_own {i : Nat} {x : Str} {e : Expr} {f : Env B → R (List D)} {pos' : Pos} (hN : X.N.Nodup) (hi : X.N[i]? = some x) (hx : Loc X.env.scope x) (h : DL X c e f) (hs : swapsWith e (some (.Name x pos')) pos.line X.env = pure false := by rfl) (hf : X.fn x = true ∨ X.env.scope.names.lookup x = some .local := by first | exact .inl rfl | exact .inr rfl | assumption) :
    DS X c (.Assign [.Name x pos'] e pos) (gOwn i f) := by
  refine ⟨PS.imp (ps_set hN hi hx h.pe hs hf) fun Dn σ H ⟨I, M, ρ, e, q⟩ => ?_⟩
  exact ⟨I, M, ρ, e, q.bind.mono fun d hd l vs H' M' k e' hl ml nl r => own_nx e hd k e' hl ml nl r⟩
/-- y = [.. for ..] on one line -/
theorem ds_lcOwn {i : Nat} {st : Stmt} {f : Env B → R (List D)} (h : PS X st (tAsg (tDL c f) (L2.gName i))) : DS X c st (gOwn i f) := by
  refine ⟨PS.imp h fun Dn σ H ⟨I, M, ρ, e, q⟩ => ?_⟩
  exact ⟨I, M, ρ, e, q.bind.mono fun d hd l vs H' M' k e' hl ml nl r => own_nx e hd k e' hl ml nl r⟩
theorem ds_lcSet {i : Nat} {st : Stmt} {f : Env B → R (List D)} (h : PS X st (tAsg (tDL c f) (L2.gName i))) : DS X c st (gSet i (eL f)) := by
  refine ⟨PS.imp h fun Dn σ H ⟨I, M, ρ, e, q⟩ => ?_⟩
  refine ⟨I, M, ρ, e, q.bind.bind.mono fun ds hx l vs H1 M1 k1 e1 hl ml nl r => ?_⟩
  have il : I.H l = none := e.ent.free nl
  have e2 := e1.adopt (o := .lst vs) hl rfl ml il fun j es hj => fun z => e.ownThere hj nl z
  exact hx _ H1 _ (k1.m.trans (upd_same_of ml)) (e2.set (.newL ml r))
def gTgt (f : Env B → R D) (t : ETg B) : GS B := fun ρ => (f ρ).bind fun d => (noE (t d ρ)).bind fun ρ' => .ok (.nx, ρ')
theorem ds_tgt {tg e : Expr} {f : Env B → R D} {is : List Nat} {t : ETg B} (hK : c.K = X.K) (h : DE X c e f) (hg : DG X tg is t) (hs : swapsWithSole [tg] e pos.line X.env = pure false := by rfl) (hw : swappedStores [tg] e X.env = pure none := by rfl)
    (h1 : (assignEach [tg] X.env).map (·.2) = [assign tg X.env] := by rfl) : DS X c (.Assign [tg] e pos) (gTgt f t) := by
  refine ⟨PS.imp (ps_asg h.pe hg.pg hs hw h1) fun Dn σ H ⟨I, M, ρ, e, q⟩ => ?_⟩
  refine ⟨I, M, ρ, e, q.bind.mono fun d hd v H' M' k e' r => ?_⟩
  obtain ⟨ρ', hρ, hp⟩ := hd.bind.noE
  exact ⟨I, M', ρ, d, ρ', hK ▸ e', hK ▸ r, hρ, fun σ' e2 _ => hp σ' H' M' k.m (hK ▸ e2)⟩
/-- a name's own list is changed -/
theorem EnvR.updOwn {i : Nat} {l : Addr} {vs vs' : List V} {ds ds' : List D} (e : EnvR K I M H σ ρ) (h : ρ[i]? = some (.own ds)) (a : σ[i]? = some (some (.ref l))) (hl : H l = some (.lst vs)) (ml : M l = none) (il : I.H l = none) (r : Reps K M vs' ds') :
    EnvR K I M (upd H l (.lst vs')) σ (ρ.set i (.own ds')) := by
  have eσ : σ.set i (some (.ref l)) = σ := by
    apply List.ext_getElem?
    intro j
    by_cases hj : i = j
    · subst hj
      rw [List.getElem?_set_self (List.getElem?_eq_some_iff.mp a).1, a]
    · rw [List.getElem?_set_ne hj]
  have e0 : EnvR K I M H (σ.set i (some (.ref l))) (ρ.set i .no) := e.setNo
  rw [eσ] at e0
  have nn : ∀ (j : Nat) (es : List D), i ≠ j → (ρ.set i .no)[j]? = some (.own es) → σ[j]? ≠ some (some (.ref l)) := fun j es hj h1 h2 => by
    rw [List.getElem?_set_ne hj] at h1
    exact e.apart i j ds es hj h h1 (a.trans h2.symm)
  have e1 : EnvR K I M (upd H l (.lst vs')) σ (ρ.set i .no) := by
    refine ⟨e0.len, fun b u q => ?_, e0.msub, fun b u q => ?_, e0.mem.step fun b u q nl => ?_, e0.mnew, fun j s hj => ?_, e0.apart⟩
    · by_cases z : b = l
      · subst z; rw [il] at q; cases q
      · rw [upd_ne z]; exact e0.ent b u q
    · have z : b ≠ l := fun z => by subst z; rw [ml] at q; cases q
      rw [upd_ne z]; exact e0.mok b u q
    · have z : b ≠ l := fun z => by subst z; rw [hl] at q; cases q; cases nl
      rw [upd_ne z]; exact q
    · have q := e0.slots j s hj
      cases s with
      | no => trivial
      | val d => exact q
      | own es =>
        obtain ⟨l', ws, b1, b2, b3, b4, b5⟩ := q
        have nl : l' ≠ l := fun z => by
          subst z
          by_cases hij : i = j
          · subst hij
            by_cases hl' : i < ρ.length
            · rw [List.getElem?_set_self hl'] at hj; cases hj
            · rw [List.getElem?_eq_none (by rw [List.length_set]; omega)] at hj; cases hj
          · exact nn j es hij hj b1
        exact ⟨l', ws, b1, by rw [upd_ne nl]; exact b2, b3, b4, b5⟩
      | obj z =>
        obtain ⟨v, b1, b2⟩ := q
        refine ⟨v, b1, B.mono _ _ _ _ _ _ _ _ b2 (Same.refl _) (fun a o h n => by rw [h] at n; cases n) fun x o q _ ni => ?_⟩
        have nl : x ≠ l := fun z => by
          subst z
          rw [hl] at q
          cases q
          exact ni.elim (fun z => by cases z) fun z => z il
        rw [upd_ne nl]; exact q
  have e2 := e1.setOwn (i := i) upd_same ml il r nn
  rw [eσ, List.set_set] at e2
  exact e2
def gApp (i : Nat) (f : Env B → R D) : GS B := fun ρ => match ρ[i]? with
  | some (.own ds) => (f ρ).bind fun d => if ds.length < 100000 then .ok (.nx, ρ.set i (.own (ds ++ [d]))) else .stuck
  | _ => .stuck
theorem lt_line5 {n : Nat} (h : n < 100000) : n < sizeLine := Nat.lt_trans h (by decide)
theorem tyV_lst {K : PySem.W.Frag} {H : Hp} {l : Addr} {vs : List V} (h : H l = some (.lst vs)) : tyV K "list" (.ref l) H := .inl ⟨rfl, _, SqL.of h⟩
theorem ds_app {i : Nat} {x : Str} {e : Expr} {f : Env B → R D} {p apos cpos : Pos} (hN : X.N[i]? = some x) (hv : Vis X.env.scope x) (h : DE X c e f) (hd : (x == ("__debug__" : Str)) = false := by decide) (hcd : (x == ("__classdict__" : Str)) = false := by decide)
    (hs : swapsWith (.Call (.Attribute (.Name x p) "append" apos) [e] [] cpos) none pos.line X.env = pure false := by rfl)
    (he : starEach [e] X.env = (false, eval e X.env) :: starEach [] X.env := by rfl)
    (hm : ∀ {ta : TE} {t : TA}, PE X (.Name x p) ta → PA X [e] t → PE X (.Call (.Attribute (.Name x p) "append" apos) [e] [] cpos) (tBM X.K "list" rAppend ta t) := by intro _ _ h1 h2; exact pe_bm PySem.F.plainAttrs_list PySem.F.slot_list_append PySem.F.type_list_append mt_append h1 h2) :
    DS X c (.Expr (.Call (.Attribute (.Name x p) "append" apos) [e] [] cpos) pos) (gApp i f) := by
  refine ⟨PS.imp (ps_expr (hm (pe_var hN hv hd hcd) (pa_cons h.pe pa_nil he)) hs) fun Dn σ H ⟨I, M, ρ, e, q⟩ => ?_⟩
  unfold gApp at q
  split at q
  · rename_i ds hi
    obtain ⟨l, vs, a, hl, ml, il, r⟩ := e.slots i _ hi
    refine ⟨_, a, tyV_lst hl, ?_⟩
    refine ⟨I, M, ρ, e, q.bind.mono fun d hd v H' M' k e' rd => ?_⟩
    split at hd
    · rename_i hlen
      obtain ⟨l', vs', a', hl', ml', il', r'⟩ := e'.slots i _ hi
      rw [a] at a'
      cases a'
      refine ⟨l, vs', v, rfl, rfl, hl', ?_, ?_⟩
      · rw [r'.length]; exact lt_line5 hlen
      · exact hd σ _ M' k.m (e'.updOwn hi a hl' ml' il' (r'.append (.cons rd .nil)))
    · exact hd.elim
  · exact q.elim
def gExt (i : Nat) (f : Env B → R D) : GS B := fun ρ => match ρ[i]? with
  | some (.own ds) => (f ρ).bind fun d => match d with
    | .list es => if ds.length + es.length ≤ 100000 then .ok (.nx, ρ.set i (.own (ds ++ es))) else .stuck
    | _ => .stuck
  | _ => .stuck
theorem ds_ext {i : Nat} {x : Str} {e : Expr} {f : Env B → R D} {p apos cpos : Pos} (hN : X.N[i]? = some x) (hv : Vis X.env.scope x) (h : DE X c e f) (hd : (x == ("__debug__" : Str)) = false := by decide) (hcd : (x == ("__classdict__" : Str)) = false := by decide)
    (hs : swapsWith (.Call (.Attribute (.Name x p) "extend" apos) [e] [] cpos) none pos.line X.env = pure false := by rfl)
    (he : starEach [e] X.env = (false, eval e X.env) :: starEach [] X.env := by rfl)
    (hm : ∀ {ta : TE} {t : TA}, PE X (.Name x p) ta → PA X [e] t → PE X (.Call (.Attribute (.Name x p) "extend" apos) [e] [] cpos) (tBM X.K "list" rExtend ta t) := by intro _ _ h1 h2; exact pe_bm PySem.F.plainAttrs_list PySem.F.slot_list_extend PySem.F.type_list_extend mt_extend h1 h2) :
    DS X c (.Expr (.Call (.Attribute (.Name x p) "extend" apos) [e] [] cpos) pos) (gExt i f) := by
  refine ⟨PS.imp (ps_expr (hm (pe_var hN hv hd hcd) (pa_cons h.pe pa_nil he)) hs) fun Dn σ H ⟨I, M, ρ, e, q⟩ => ?_⟩
  unfold gExt at q
  split at q
  · rename_i ds hi
    obtain ⟨l, vs, a, hl, ml, il, r⟩ := e.slots i _ hi
    refine ⟨_, a, tyV_lst hl, ?_⟩
    refine ⟨I, M, ρ, e, q.bind.mono fun d hd v H' M' k e' rd => ?_⟩
    split at hd
    · rename_i es
      split at hd
      · rename_i hlen
        obtain ⟨l', vs', a', hl', ml', il', r'⟩ := e'.slots i _ hi
        rw [a] at a'
        cases a'
        cases rd with
        | lst hb rb =>
          refine ⟨l, _, vs', _, rfl, rfl, hl', e'.mok.same _ _ hb, ?_, ?_⟩
          · rw [r'.length, rb.length]; exact le_line5 hlen
          · exact hd σ _ M' k.m (e'.updOwn hi a hl' ml' il' (r'.append rb))
      · exact hd.elim
    · exact hd.elim
  · exact q.elim
/-- x[j] = e, x a name's own list -/
def gPut (i : Nat) (fi fv : Env B → R D) : GS B := fun ρ => (fv ρ).bind fun d => match ρ[i]? with
  | some (.own ds) => (fi ρ).bind fun j => match j with
    | .int j => match ixN ds.length j with
      | some n => .ok (.nx, ρ.set i (.own (ds.set n d)))
      | none => .stuck
    | _ => .stuck
  | _ => .stuck
theorem ds_put {i : Nat} {x : Str} {ei ev : Expr} {fi fv : Env B → R D} {p spos : Pos} (hN : X.N[i]? = some x) (hv : Vis X.env.scope x) (hi : DE X c ei fi) (h : DE X c ev fv) (hd : (x == ("__debug__" : Str)) = false := by decide) (hcd : (x == ("__classdict__" : Str)) = false := by decide)
    (ha : ∀ v, assign (.Subscript (.Name x p) ei spos) X.env v = (do
      let ov ← holding [v] (eval (.Name x p) X.env)
      let iv ← holding [v, ov] (eval ei X.env)
      standAt spos
      holding [v, ov, iv] (setItem ov iv v)
      release [v, ov, iv] []) := by intro _; rfl)
    (hs : swapsWithSole [.Subscript (.Name x p) ei spos] ev pos.line X.env = pure false := by rfl) (hw : swappedStores [.Subscript (.Name x p) ei spos] ev X.env = pure none := by rfl)
    (h1 : (assignEach [.Subscript (.Name x p) ei spos] X.env).map (·.2) = [assign (.Subscript (.Name x p) ei spos) X.env] := by rfl) :
    DS X c (.Assign [.Subscript (.Name x p) ei spos] ev pos) (gPut i fi fv) := by
  refine ⟨PS.imp (ps_asg h.pe (pg_sub (pe_var hN hv hd hcd) hi.pe set_list ha) hs hw h1) fun Dn σ H ⟨I, M, ρ, e, q⟩ => ?_⟩
  refine ⟨I, M, ρ, e, q.bind.mono fun d hd v H' M' k e' rd => ?_⟩
  split at hd
  · rename_i ds hi'
    obtain ⟨l, vs, a, hl, ml, il, r⟩ := e'.slots i _ hi'
    refine ⟨_, a, I, M', ρ, e', hd.bind.mono fun j hj u H2 M2 k2 e2 ru => ?_⟩
    split at hj
    · rename_i j
      split at hj
      · rename_i n hn
        obtain ⟨l', vs', a', hl', ml', il', r'⟩ := e2.slots i _ hi'
        rw [a] at a'
        cases a'
        cases ru
        refine ⟨l, vs', j, n, rfl, rfl, hl', by rw [r'.length]; exact hn, ?_⟩
        exact hj σ _ M2 (k.m.trans k2.m) (e2.updOwn hi' a hl' ml' il' (Reps.set (rd.same k2.m) n r'))
      · exact hj.elim
    · exact hj.elim
  · exact hd.elim
/-- a.append(b.pop(j)), both own -/
def gAppPop (i b : Nat) (fj : Env B → R D) : GS B := fun ρ => match ρ[i]?, ρ[b]? with
  | some (.own ds), some (.own es) => if i = b then .stuck else (fj ρ).bind fun j => match j with
    | .int j => if -1000000 ≤ j ∧ j ≤ 1000000 then match seqIndex? j es.length with
      | some n => match es[n]? with
        | some y => if ds.length < 100000 then .ok (.nx, (ρ.set b (.own (es.eraseIdx n))).set i (.own (ds ++ [y]))) else .stuck
        | none => .stuck
      | none => .stuck
      else .stuck
    | _ => .stuck
  | _, _ => .stuck
theorem ds_appPop {i b : Nat} {x y : Str} {ej : Expr} {fj : Env B → R D} {p apos cpos p2 apos2 cpos2 : Pos} (hN : X.N[i]? = some x) (hv : Vis X.env.scope x) (hN2 : X.N[b]? = some y) (hv2 : Vis X.env.scope y) (h : DE X c ej fj)
    (hd : (x == ("__debug__" : Str)) = false := by decide) (hcd : (x == ("__classdict__" : Str)) = false := by decide) (hd2 : (y == ("__debug__" : Str)) = false := by decide) (hcd2 : (y == ("__classdict__" : Str)) = false := by decide)
    (hs : swapsWith (.Call (.Attribute (.Name x p) "append" apos) [.Call (.Attribute (.Name y p2) "pop" apos2) [ej] [] cpos2] [] cpos) none pos.line X.env = pure false := by rfl)
    (he : starEach [.Call (.Attribute (.Name y p2) "pop" apos2) [ej] [] cpos2] X.env = (false, eval (.Call (.Attribute (.Name y p2) "pop" apos2) [ej] [] cpos2) X.env) :: starEach [] X.env := by rfl)
    (he2 : starEach [ej] X.env = (false, eval ej X.env) :: starEach [] X.env := by rfl)
    (hm : ∀ {e : Expr} {ta : TE} {t : TA}, PE X (.Name x p) ta → PA X [.Call (.Attribute (.Name y p2) "pop" apos2) [ej] [] cpos2] t → PE X (.Call (.Attribute (.Name x p) "append" apos) [.Call (.Attribute (.Name y p2) "pop" apos2) [ej] [] cpos2] [] cpos) (tBM X.K "list" rAppend ta t) := by intro _ _ _ h1 h2; exact pe_bm PySem.F.plainAttrs_list PySem.F.slot_list_append PySem.F.type_list_append mt_append h1 h2)
    (hm2 : ∀ {ta : TE} {t : TA}, PE X (.Name y p2) ta → PA X [ej] t → PE X (.Call (.Attribute (.Name y p2) "pop" apos2) [ej] [] cpos2) (tBM X.K "list" rPopAt ta t) := by intro _ _ h1 h2; exact pe_bm PySem.F.plainAttrs_list PySem.F.slot_list_pop PySem.F.type_list_pop mt_popAt h1 h2) :
    DS X c (.Expr (.Call (.Attribute (.Name x p) "append" apos) [.Call (.Attribute (.Name y p2) "pop" apos2) [ej] [] cpos2] [] cpos) pos) (gAppPop i b fj) := by
  refine ⟨PS.imp (ps_expr (hm (e := ej) (pe_var hN hv hd hcd) (pa_cons (hm2 (pe_var hN2 hv2 hd2 hcd2) (pa_cons h.pe pa_nil he2)) pa_nil he)) hs) fun Dn σ H ⟨I, M, ρ, e, q⟩ => ?_⟩
  unfold gAppPop at q
  split at q
  · rename_i ds es hi hb
    split at q
    · exact q.elim
    rename_i hib
    obtain ⟨l, vs, a, hl, ml, il, r⟩ := e.slots i _ hi
    obtain ⟨l2, ws, a2, hl2, ml2, il2, r2⟩ := e.slots b _ hb
    refine ⟨_, a, tyV_lst hl, _, a2, tyV_lst hl2, ?_⟩
    refine ⟨I, M, ρ, e, q.bind.mono fun j hj u H2 M2 k2 e2 ru => ?_⟩
    split at hj
    · rename_i j
      split at hj
      · rename_i hjb
        split at hj
        · rename_i n hn
          split at hj
          · rename_i y hy
            split at hj
            · rename_i hlen
              obtain ⟨l', vs', a', hl', ml', il', r'⟩ := e2.slots i _ hi
              rw [a] at a'; cases a'
              obtain ⟨l3, ws', a3, hl3, ml3, il3, r3⟩ := e2.slots b _ hb
              rw [a2] at a3; cases a3
              cases ru
              obtain ⟨v, hv, rv⟩ := r3.get hy
              refine ⟨l2, ws', j, n, v, rfl, rfl, hl3, by omega, by omega, by rw [r3.length]; exact hn, hv, ?_⟩
              have e4 := e2.updOwn hb a2 hl3 ml3 il3 (r3.erase n)
              have hi4 : (ρ.set b (.own (es.eraseIdx n)))[i]? = some (.own ds) := by rw [List.getElem?_set_ne (fun z => hib z.symm)]; exact hi
              have nl : l ≠ l2 := fun z => by subst z; exact e2.apart i b ds es hib hi hb (a.trans a2.symm)
              have hl4 : upd H2 l2 (.lst (ws'.eraseIdx n)) l = some (.lst vs') := by rw [upd_ne nl]; exact hl'
              refine ⟨l, vs', v, rfl, rfl, hl4, ?_, ?_⟩
              · rw [r'.length]; exact lt_line5 hlen
              · exact hj σ _ M2 k2.m (e4.updOwn hi4 a hl4 ml' il' (r'.append (.cons rv .nil)))
            · exact hj.elim
          · exact hj.elim
        · exact hj.elim
      · exact hj.elim
    · exact hj.elim
  · exact q.elim

/-! ### own lists read -/
def gFrz (i : Nat) (g : GS B) : GS B := fun ρ => match ρ[i]? with
  | some (.own ds) => g (ρ.set i (.val (.list ds)))
  | _ => .stuck
theorem dss_frz {sts : List Stmt} {g : GS B} (i : Nat) (h : DSs X c sts g) : DSs X c sts (gFrz i g) := by
  refine ⟨PSs.imp h.pss fun Dn σ H ⟨I, M, ρ, e, q⟩ => ?_⟩
  unfold gFrz at q
  split at q
  · rename_i ds hi
    obtain ⟨l, vs, a, hl, ml, il, r, e2⟩ := e.freeze hi
    exact ⟨I, _, _, e2, RD.mono q fun r h => h.same (upd_same_of ml)⟩
  · exact q.elim
def scal1 (d : D) : R D := match d with
  | .none => .ok d
  | .bool _ => .ok d
  | .int _ => .ok d
  | .str _ => .ok d
  | _ => .stuck
def noObjs (ρ : Env B) : Bool := ρ.all fun s => match s with
  | .obj _ => false
  | _ => true
def eBor (i : Nat) (f : Env B → R D) : Env B → R D := fun ρ => match ρ[i]? with
  | some (.own ds) => (f (ρ.set i (.val (.list ds)))).bind scal1
  | _ => .stuck
def tBor (i : Nat) (f : Env B → R Bool) : Env B → R Bool := fun ρ => match ρ[i]? with
  | some (.own ds) => f (ρ.set i (.val (.list ds)))
  | _ => .stuck
theorem Keep.at' {b : Bool} {H H' : Hp} (x : Keep b H H') {a : Addr} {o : HO} (h : H a = some o) (n : imm o = true) : H' a = some o := x.at h (by cases o <;> first | rfl | cases n)
theorem EnvR.kept {b : Bool} (e : EnvR K I M H σ ρ) (k : Keep b H H') (hb : b = I.b) (m : MemOk K M H') : EnvR K I M H' σ ρ where
  mem := m
  len := e.len
  ent := e.ent.trans (hb ▸ k)
  msub := e.msub
  mok := fun a o h => ⟨k.at' (e.mok a o h).1 (e.mok a o h).2, (e.mok a o h).2⟩
  mnew := e.mnew
  slots := fun j s h => by
    have q := e.slots j s h
    cases s with
    | no => trivial
    | val d => exact q
    | own ds => obtain ⟨l, vs, a, hl, ml, il, r⟩ := q; exact ⟨l, vs, a, k.at hl rfl, ml, il, r⟩
    | obj z =>
      obtain ⟨v, a, r⟩ := q
      exact ⟨v, a, B.mono _ _ _ _ _ _ _ _ r (Same.refl _) (fun a o h n => by rw [h] at n; cases n) fun x o q ni _ => k.at q ni⟩
  apart := e.apart
theorem Step.keep {b : Bool} {M M2 H M' H' : Hp} (x : Step b M2 H M' H') : Step b M H M H' := ⟨x.k, Same.refl _, fun a o h n => by rw [h] at n; cases n⟩
theorem de_bor {e : Expr} {f : Env B → R D} (i : Nat) (h : DE X c e f) : DE X c e (eBor i f) := by
  refine ⟨PE.imp h.pe fun σ H Q ⟨I, M, ρ, e, q⟩ => ?_⟩
  unfold eBor at q
  split at q
  · rename_i ds hi
    obtain ⟨l, vs, a, hl, ml, il, r, e2⟩ := e.freeze hi
    refine ⟨I, _, _, e2, q.bind.mono fun d hd v H' M' k e' rd => ?_⟩
    have e3 := e.kept k.k rfl (e.mem.down e'.mem ((upd_same_of ml).trans k.m))
    unfold scal1 at hd
    split at hd
    · cases rd; exact hd _ H' M k.keep e3 .non
    · cases rd; exact hd _ H' M k.keep e3 (.bl _)
    · cases rd; exact hd _ H' M k.keep e3 (.int _)
    · cases rd; exact hd _ H' M k.keep e3 (.str _)
    · exact hd.elim
  · exact q.elim
theorem dt_bor {e : Expr} {f : Env B → R Bool} (i : Nat) (h : DT X c e f) : DT X c e (tBor i f) := by
  refine ⟨PT.imp h.pt fun σ H Q ⟨I, M, ρ, e, q⟩ => ?_⟩
  unfold tBor at q
  split at q
  · rename_i ds hi
    obtain ⟨l, vs, a, hl, ml, il, r, e2⟩ := e.freeze hi
    exact ⟨I, _, _, e2, RD.mono q fun d hd H' M' k e' => hd H' M k.keep (e.kept k.k rfl (e.mem.down e'.mem ((upd_same_of ml).trans k.m)))⟩
  · exact q.elim

/-! ### loops -/
def loopF (t : ETg B) (g : GS B) : List D → GS B
  | [], ρ => .ok (.nx, ρ)
  | d :: r, ρ => (noE (t d ρ)).bind fun ρ1 => (g ρ1).bind fun x => match x with
    | (.nx, ρ2) => loopF t g r ρ2
    | (.ct, ρ2) => loopF t g r ρ2
    | (.bk, ρ2) => .ok (.nx, ρ2)
    | (.rt v, ρ2) => .ok (.rt v, ρ2)
    | (.rtL v, ρ2) => .ok (.rtL v, ρ2)
    | (.rtP v d, ρ2) => .ok (.rtP v d, ρ2)
def gFor (fi : Env B → R (List D)) (t : ETg B) (g : GS B) : GS B := fun ρ => (fi ρ).bind fun items => loopF t g items ρ
theorem ds_for {tg iter : Expr} {body : List Stmt} {fi : Env B → R (List D)} {is : List Nat} {t : ETg B} {g : GS B} {k : Nat} (G : GoodS X c k) (hi : DI X c tg iter fi) (hg : DG X tg is t) (hb : DSs X c body g)
    (hs : ∀ x, foldedSetIterable iter X.env x = pure x := by intro _; rfl) : DS X c (.For tg iter body [] pos) (gFor fi t g) := by
  refine ⟨PS.imp (ps_for G.own G.calm hi.pi hg.pg hb.pss hs) fun Dn σ H ⟨I, M, ρ, e, q⟩ => ?_⟩
  refine ⟨I, M, ρ, e, q.bind.mono fun items hx J H1 M1 k1 e1 wj => ?_⟩
  refine ⟨fun i m σ H => m = items.length - i ∧ i ≤ items.length ∧ ∃ M ρ, Same M1 M ∧ EnvR c.K I M H σ ρ ∧ RD c I (loopF t g (items.drop i) ρ) (PostS c I M1 Dn), ⟨items.length, by simp, Nat.zero_le _, M1, ρ, Same.refl _, e1, by rw [List.drop_zero]; exact RD.mono hx fun r h => h.same k1.m⟩, ?_⟩
  rintro i m σ2 H2 ⟨rfl, hi', M2, ρ2, s2, e2, h2⟩
  by_cases hlt : i < items.length
  · refine .inr ?_
    have ed : items[i]? = some items[i] := by simp [hlt]
    obtain ⟨go, yl⟩ := wj.go i H2 M2 items[i] e2.mok s2 ed
    rw [List.drop_eq_getElem_cons hlt] at h2
    unfold loopF at h2
    obtain ⟨ρ3, hρ3, h3⟩ := h2.bind.noE
    refine ⟨go, fun σ' H' => ∃ M ρ, Same M1 M ∧ EnvR c.K I M H' σ' ρ ∧ RD c I (loopF t g (items.drop (i + 1)) ρ) (PostS c I M1 Dn), fun σ' H' h' => ⟨items.length - (i + 1), by omega, rfl, hlt, h'⟩, fun x H' y => ?_⟩
    obtain ⟨M3, g3, r3⟩ := yl x H' y
    have e3 := e2.grow g3
    refine ⟨I, M3, ρ2, items[i], ρ3, G.K ▸ e3, G.K ▸ r3, hρ3, fun σ4 e4 _ => ?_⟩
    have e4' : EnvR c.K I M3 H' σ4 ρ3 := G.K ▸ e4
    have s3 := s2.trans g3.m
    refine ⟨I, M3, ρ3, e4', h3.bind.mono fun r hr => ?_⟩
    obtain ⟨fl, ρ5⟩ := r
    cases fl with
    | nx => exact fun σ5 H5 M5 s5 e5 => ⟨M5, ρ5, s3.trans s5, e5, hr⟩
    | ct => exact fun σ5 H5 M5 s5 e5 => ⟨M5, ρ5, s3.trans s5, e5, hr⟩
    | bk => exact fun σ5 H5 M5 s5 e5 => (show PostS c I M1 Dn (.nx, ρ5) from hr) σ5 H5 M5 (s3.trans s5) e5
    | rt v => exact (show PostS c I M1 Dn (.rt v, ρ5) from hr).same s3
    | rtL v => exact (show PostS c I M1 Dn (.rtL v, ρ5) from hr).same s3
    | rtP v d => exact (show PostS c I M1 Dn (.rtP v d, ρ5) from hr).same s3
  · have ei : i = items.length := by omega
    subst ei
    rw [List.drop_length] at h2
    exact .inl ⟨wj.stop H2 M2 e2.mok s2, (show PostS c I M1 Dn (.nx, ρ2) from h2) σ2 H2 M2 s2 e2⟩
def whileF (t : Env B → R Bool) (g : GS B) : Nat → GS B
  | 0, _ => .stuck
  | n + 1, ρ => (t ρ).bind fun b => if b = true then (g ρ).bind fun x => (match x with
    | (.nx, ρ2) => whileF t g n ρ2
    | (.ct, ρ2) => whileF t g n ρ2
    | (.bk, ρ2) => .ok (.nx, ρ2)
    | (.rt v, ρ2) => .ok (.rt v, ρ2)
    | (.rtL v, ρ2) => .ok (.rtL v, ρ2)
    | (.rtP v d, ρ2) => .ok (.rtP v d, ρ2)) else .ok (.nx, ρ)
theorem ds_while {e : Expr} {body : List Stmt} {t : Env B → R Bool} {g : GS B} {k : Nat} (n : Nat) (G : GoodS X c k) (ht : DT X c e t) (hb : DSs X c body g) : DS X c (.While e body [] pos) (whileF t g n) := by
  refine ⟨PS.imp (ps_while G.own ht.pt hb.pss) fun Dn σ H ⟨I, M, ρ, e, q⟩ => ?_⟩
  refine ⟨fun m σ H => ∃ M' ρ, Same M M' ∧ EnvR c.K I M' H σ ρ ∧ RD c I (whileF t g m ρ) (PostS c I M Dn), ⟨n, M, ρ, Same.refl _, e, q⟩, ?_⟩
  rintro m σ2 H2 ⟨M2, ρ2, s2, e2, h2⟩
  cases m with
  | zero => exact h2.elim
  | succ m =>
    unfold whileF at h2
    refine ⟨I, M2, ρ2, e2, h2.bind.mono fun b hb' H3 M3 k3 e3 => ?_⟩
    have s3 := s2.trans k3.m
    cases b with
    | true =>
      rw [if_pos rfl] at hb'
      refine iteT ⟨fun σ' H' => ∃ M' ρ, Same M M' ∧ EnvR c.K I M' H' σ' ρ ∧ RD c I (whileF t g m ρ) (PostS c I M Dn), fun σ' H' h' => ⟨m, Nat.lt_succ_self _, h'⟩, ?_⟩
      refine ⟨I, M3, ρ2, e3, hb'.bind.mono fun r hr => ?_⟩
      obtain ⟨fl, ρ5⟩ := r
      cases fl with
      | nx => exact fun σ5 H5 M5 s5 e5 => ⟨M5, ρ5, s3.trans s5, e5, hr⟩
      | ct => exact fun σ5 H5 M5 s5 e5 => ⟨M5, ρ5, s3.trans s5, e5, hr⟩
      | bk => exact fun σ5 H5 M5 s5 e5 => (show PostS c I M Dn (.nx, ρ5) from hr) σ5 H5 M5 (s3.trans s5) e5
      | rt v => exact (show PostS c I M Dn (.rt v, ρ5) from hr).same s3
      | rtL v => exact (show PostS c I M Dn (.rtL v, ρ5) from hr).same s3
      | rtP v d => exact (show PostS c I M Dn (.rtP v d, ρ5) from hr).same s3
    | false =>
      rw [if_neg Bool.false_ne_true] at hb'
      refine iteF ?_
      exact (show PostS c I M Dn (.nx, ρ2) from hb') σ2 H3 M3 s3 e3

/-! ### raise -/
def gExc (n : Nat) : GS B := fun _ => .exc n
structure ExcF (X : Cx) (C : Addr) (x : Str) : Prop where
  g : X.mg x = some (.ref C)
  q : PySem.W.excIn X.K C [.type "ValueError", .type "Exception", .type "BaseException", .type "object"] "ValueError.__new__" = true
  kp : PySem.W.keepIn X.K (.ref C) = true
  sub : PySem.W.subIn X.K (.ref C) (.type "BaseException") = some true
  ty : PySem.W.typeIn X.K (.ref C) = some (.type "type")
theorem ds_raise {x m : Str} {j : Nat} {p p2 cpos : Pos} {n k : Nat} (G : GoodS X c k) (F : ExcF X (c.cA n) x) (hg : Gl X x := by rfl) (hdb : (x == ("__debug__" : Str)) = false := by decide) :
    DS X c (.Raise (some (.Call (.Name x p) [.Constant (.str m) j p2] [] cpos)) none pos) (gExc n) := by
  refine ⟨PS.imp (L2N.ps_raise G.calm G.takes (L2N.pmk_own PySem.F.excBase_ValueError F.q F.g F.kp (raises_own F.sub F.ty) hg hdb)) fun Dn σ H ⟨I, M, ρ, e, q⟩ => ?_⟩
  exact q.elim
end
end PL

set_option Elab.async false
set_option linter.all false
set_option maxRecDepth 100000
set_option maxHeartbeats 4000000
/-! defs: contracts, calls -/
namespace PL
open PySem PySem.Spec PyProof.Rows L2
section
variable {B : ObjB} {P : Program} {w : World} {K : PySem.W.Frag} {mg : Str → Option Value} {base : Heap} {cA : Nat → Addr}
/-- what a call over data promises -/
def RF {α : Type} (cA : Nat → Addr) (E : XK) (H : Hp) (r : R α) (Pp : α → Prop) : Prop := match r with
  | .ok a => Pp a
  | .exc _ => False
  | .stuck => False
def spD (K : PySem.W.Frag) (cA : Nat → Addr) (ar : Nat) (F : List D → R D) : Sp := fun vs H Q E => vs.length = ar ∧ ∃ M ds, MOkT K M H ∧ Reps K M vs ds ∧ RF cA E H (F ds) fun d => ∀ v H' M', GrowT K M H M' H' → Rep K M' v d → Q v H'
/-- .. where a fresh list comes back -/
def spL (K : PySem.W.Frag) (cA : Nat → Addr) (ar : Nat) (F : List D → R (List D)) : Sp := fun vs H Q E => vs.length = ar ∧ ∃ M ds, MOkT K M H ∧ Reps K M vs ds ∧ RF cA E H (F ds) fun xs => ∀ l ws H' M', GrowT K M H M' H' → H' l = some (.lst ws) → M' l = none → H l = none → Reps K M' ws xs → Q (.ref l) H'
structure DfS (P : Program) (w : World) (K : PySem.W.Frag) (mg : Str → Option Value) (base : Heap) (x : Str) (k ar : Nat) (sp : Sp) : Prop where
  ex : ∃ f fd ps, List.length (α := Str) ps = ar ∧ FnOk P w K mg base (L2N.CX P w) k f fd ps sp ∧ mg x = some (.ref f) ∧ PySem.W.keepIn K (.ref f) = true ∧ Binds K fd ps []
abbrev Df (P : Program) (w : World) (K : PySem.W.Frag) (mg : Str → Option Value) (base : Heap) (cA : Nat → Addr) (x : Str) (k ar : Nat) (F : List D → R D) : Prop := DfS P w K mg base x k ar (spD K cA ar F)
abbrev DfL (P : Program) (w : World) (K : PySem.W.Frag) (mg : Str → Option Value) (base : Heap) (cA : Nat → Addr) (x : Str) (k ar : Nat) (F : List D → R (List D)) : Prop := DfS P w K mg base x k ar (spL K cA ar F)
theorem DfS.imp {x : Str} {k ar : Nat} {sp sp' : Sp} (d : DfS P w K mg base x k ar sp) (h : ∀ vs H Q E, sp' vs H Q E → sp vs H Q E) : DfS P w K mg base x k ar sp' := by
  obtain ⟨f, fd, ps, h1, h2, h3, h4, h5⟩ := d.ex
  exact ⟨f, fd, ps, h1, h2.imp h, h3, h4, h5⟩
theorem DfS.mono {x : Str} {k j ar : Nat} {sp : Sp} (d : DfS P w K mg base x k ar sp) (h : k ≤ j) : DfS P w K mg base x j ar sp := by
  obtain ⟨f, fd, ps, h1, h2, h3, h4, h5⟩ := d.ex
  exact ⟨f, fd, ps, h1, h2.mono h, h3, h4, h5⟩
def listR (F : List D → R (List D)) : List D → R D := fun ds => (F ds).bind fun xs => .ok (.list xs)
theorem GrowT.adopt {K : PySem.W.Frag} {M H M' H' : Hp} (g : GrowT K M H M' H') {l : Addr} {o : HO} (hl : H' l = some o) (io : imm o = true) (ml : M' l = none) (nl : H l = none) (ni : isIns o = false := by rfl) : GrowT K M H (upd M' l o) H' where
  k := g.k
  mem := g.mem.up (upd_same_of ml) fun a u h n => by
    by_cases z : a = l
    · subst z; rw [upd_same] at h; cases h; exact ni
    · rw [upd_ne z, n] at h; cases h
  m := g.m.trans (upd_same_of ml)
  ok := fun a u h => by
    by_cases z : a = l
    · subst z; rw [upd_same] at h; cases h; exact ⟨hl, io⟩
    · rw [upd_ne z] at h; exact g.ok a u h
  new := fun a u h n => by
    by_cases z : a = l
    · subst z; exact nl
    · rw [upd_ne z] at h; exact g.new a u h n
theorem DfS.toD {x : Str} {k ar : Nat} {F : List D → R (List D)} (d : DfL P w K mg base cA x k ar F) : Df P w K mg base cA x k ar (listR F) := d.imp fun vs H Q E ⟨h1, M, ds, h2, h3, h4⟩ => by
  refine ⟨h1, M, ds, h2, h3, ?_⟩
  unfold listR at h4
  cases hF : F ds with
  | ok xs =>
    rw [hF] at h4
    exact fun l ws H' M' g hl ml nl r => h4 _ H' _ (g.adopt hl rfl ml nl) (.newL ml r)
  | exc n => rw [hF] at h4; exact h4
  | stuck => rw [hF] at h4; exact h4.elim
/-- a function that says the same where it says anything -/
theorem DfS.of_eq {x : Str} {k ar : Nat} {F G : List D → R D} (d : Df P w K mg base cA x k ar F) (h : ∀ ds, G ds ≠ .stuck → F ds = G ds) : Df P w K mg base cA x k ar G := d.imp fun vs H Q E ⟨h1, M, ds, h2, h3, h4⟩ => by
  refine ⟨h1, M, ds, h2, h3, ?_⟩
  have ne : G ds ≠ .stuck := fun z => by rw [z] at h4; exact h4
  rw [h ds ne]
  exact h4
theorem DfS.of_eqL {x : Str} {k ar : Nat} {F G : List D → R (List D)} (d : DfL P w K mg base cA x k ar F) (h : ∀ ds, G ds ≠ .stuck → F ds = G ds) : DfL P w K mg base cA x k ar G := d.imp fun vs H Q E ⟨h1, M, ds, h2, h3, h4⟩ => by
  refine ⟨h1, M, ds, h2, h3, ?_⟩
  have ne : G ds ≠ .stuck := fun z => by rw [z] at h4; exact h4
  rw [h ds ne]
  exact h4

/-! ### calls -/
variable {X : Cx} {c : Ctx B} {pos : Pos}
def eCall (ar : Nat) (F : List D → R D) (f : Env B → R (List D)) : Env B → R D := fun ρ => (f ρ).bind fun ds => if ds.length = ar then F ds else .stuck
theorem de_call {x : Str} {e : Expr} {es : List Expr} {f : Env B → R (List D)} {k j ar : Nat} {F : List D → R D} {p : Pos} (G : Good X c k) (d : Df X.prog X.w X.K X.mg X.base c.cA x j ar F) (hj : j ≤ k) (ha : DA X c (e :: es) f) (hg : Gl X x := by rfl)
    (hdb : (x == ("__debug__" : Str)) = false := by decide) (he : starEach (e :: es) X.env = (false, eval e X.env) :: starEach es X.env := by rfl) (hpl : (backTo pos (starEach es X.env)).any (·.1) = false := by rfl) :
    DE X c (.Call (.Name x p) (e :: es) [] pos) (eCall ar F f) := by
  obtain ⟨fa, fd, ps, hl, hF, hm, hk, hb⟩ := d.ex
  refine ⟨PE.imp (pe_call hF (G.room.mono hj) hg hm hk hb .nil G.pass ha.pa hdb he hpl) fun σ H Q ⟨I, M, ρ, e, q⟩ => ?_⟩
  refine ⟨I, M, ρ, e, q.bind.mono fun ds hx vs H1 M1 k1 e1 r1 => ?_⟩
  split at hx
  · rename_i hlen
    rw [List.append_nil]
    refine ⟨by rw [r1.length]; exact hlen, M1, ds, G.K ▸ e1.okT, G.K ▸ r1, ?_⟩
    cases hF : F ds with
    | ok a =>
      rw [hF] at hx
      exact fun v H' M' g r => hx v H' M' (k1.trans (.ofT g)) (e1.growT (G.K ▸ g)) (G.K ▸ r)
    | exc n =>
      rw [hF] at hx
      exact hx.elim
    | stuck => rw [hF] at hx; exact hx.elim
  · exact hx.elim
def lCall (ar : Nat) (F : List D → R (List D)) (f : Env B → R (List D)) : Env B → R (List D) := fun ρ => (f ρ).bind fun ds => if ds.length = ar then F ds else .stuck
theorem dl_call {x : Str} {e : Expr} {es : List Expr} {f : Env B → R (List D)} {k j ar : Nat} {F : List D → R (List D)} {p : Pos} (G : Good X c k) (d : DfL X.prog X.w X.K X.mg X.base c.cA x j ar F) (hj : j ≤ k) (ha : DA X c (e :: es) f) (hg : Gl X x := by rfl)
    (hdb : (x == ("__debug__" : Str)) = false := by decide) (he : starEach (e :: es) X.env = (false, eval e X.env) :: starEach es X.env := by rfl) (hpl : (backTo pos (starEach es X.env)).any (·.1) = false := by rfl) :
    DL X c (.Call (.Name x p) (e :: es) [] pos) (lCall ar F f) := by
  obtain ⟨fa, fd, ps, hl, hF, hm, hk, hb⟩ := d.ex
  refine ⟨PE.imp (pe_call hF (G.room.mono hj) hg hm hk hb .nil G.pass ha.pa hdb he hpl) fun σ H Q ⟨I, M, ρ, e, q⟩ => ?_⟩
  refine ⟨I, M, ρ, e, q.bind.mono fun ds hx vs H1 M1 k1 e1 r1 => ?_⟩
  split at hx
  · rename_i hlen
    rw [List.append_nil]
    refine ⟨by rw [r1.length]; exact hlen, M1, ds, G.K ▸ e1.okT, G.K ▸ r1, ?_⟩
    cases hF : F ds with
    | ok a =>
      rw [hF] at hx
      exact fun l ws H' M' g hl ml nl r => hx l ws H' M' (k1.trans (.ofT g)) (e1.growT (G.K ▸ g)) hl ml (k1.k.free nl) (G.K ▸ r)
    | exc n =>
      rw [hF] at hx
      exact hx.elim
    | stuck => rw [hF] at hx; exact hx.elim
  · exact hx.elim

/-! ### a def keeps its promise -/
def startE (n : Nat) (ds : List D) : Env B := ds.map .val ++ List.replicate (n - ds.length) .no
theorem startE_env {K : PySem.W.Frag} {N : List Str} {M H : Hp} {vs : List V} {ds : List D} (k : MOkT K M H) (r : Reps K M vs ds) : EnvR K ⟨M, H, false⟩ M H (L2.start N vs) (startE (B := B) N.length ds) where
  len := by
    unfold L2.start startE
    simp only [List.length_append, List.length_map, List.length_replicate, r.length]
  ent := .refl
  msub := Same.refl _
  mok := k.ok
  mem := k.mem
  mnew := fun a o h n => by
    have n' : M a = none := n
    rw [h] at n'; cases n'
  slots := fun i s h => by
    unfold startE at h
    unfold L2.start
    by_cases hi : i < ds.length
    · rw [List.getElem?_append_left (by simpa using hi), List.getElem?_map] at h
      rw [List.getElem?_append_left (by rw [List.length_map, r.length]; exact hi), List.getElem?_map]
      cases hd : ds[i]? with
      | none => rw [hd] at h; cases h
      | some d =>
        rw [hd] at h
        cases h
        obtain ⟨v, hv, rv⟩ := r.get hd
        exact ⟨v, by rw [hv]; rfl, rv⟩
    · rw [List.getElem?_append_right (by simpa using hi), List.getElem?_replicate] at h
      split at h
      · cases h; trivial
      · cases h
  apart := fun i j ds' es hne h1 h2 => by
    unfold startE at h1
    by_cases hi : i < ds.length
    · rw [List.getElem?_append_left (by simpa using hi), List.getElem?_map] at h1
      cases hd : ds[i]? with
      | none => rw [hd] at h1; cases h1
      | some d => rw [hd] at h1; cases h1
    · rw [List.getElem?_append_right (by simpa using hi), List.getElem?_replicate] at h1
      split at h1
      · cases h1
      · cases h1
/-- what a body's run hands back -/
def endF (r : Fl × Env B) : R D := match r.1 with
  | .nx => .ok .none
  | .rt d => .ok d
  | .rtL ds => .ok (.list ds)
  | _ => .stuck
def endL (r : Fl × Env B) : R (List D) := match r.1 with
  | .rtL ds => .ok ds
  | _ => .stuck
def runF (n : Nat) (g : GS B) : List D → R D := fun ds => (g (startE n ds)).bind endF
def runL (n : Nat) (g : GS B) : List D → R (List D) := fun ds => (g (startE n ds)).bind endL
theorem EnvR.growth {K : PySem.W.Frag} {M0 H0 M H : Hp} {σ : L2.St} {ρ : Env B} (e : EnvR K ⟨M0, H0, false⟩ M H σ ρ) : GrowT K M0 H0 M H := ⟨e.ent, e.msub, e.mok, e.mnew, e.mem⟩
abbrev bodyC (P : Program) (w : World) (K : PySem.W.Frag) (mg : Str → Option Value) (base : Heap) (N : List Str) (qual : Str) (scope : Scope) (f : Addr) (cd : Value) (A : Around) (outer : List PySem.Env) (s : Shared) (H : Hp) (E : XK) : Cx :=
  cxOf (L2N.CX P w) P w K mg base N qual scope f cd A outer s H E
theorem good_body {P : Program} {w : World} {K : PySem.W.Frag} {mg : Str → Option Value} {base : Heap} {N : List Str} {qual : Str} {scope : Scope} {f : Addr} {cd : Value} {A : Around} {outer : List PySem.Env} {s : Shared} {H : Hp} {E : XK} {k : Nat} (nd : N.Nodup) (hr : Room k (A.deeper (envOfC qual scope s.heap.objs.size f cd))) :
    GoodS (B := B) (bodyC P w K mg base N qual scope f cd A outer s H E) ⟨K, cA, E⟩ k where
  K := rfl
  nd := nd
  calm := rfl
  room := hr
  pass := L2N.passes_call (W := fun cls d _ H => E cls d H) (L2N.takes_of rfl rfl rfl rfl) fun _ _ _ _ h => h
  own := passes_of rfl
  takes := L2N.takes_of rfl rfl rfl rfl
theorem fnok_mk {x qual : Str} {params : Arguments} {body : List Stmt} {scope : Scope} {kws : List (Str × V)} {f : Addr} {fd : FuncData} {N ps : List Str} {k : Nat} {g : GS B} (FD : FunD K x qual params body scope [] kws f fd) (S : FnScope N ps scope)
    (hbody : ∀ (cdv : Value) (A : Around) (outer : List PySem.Env) (s : Shared) (H : Hp) (E : XK), GoodS (B := B) (bodyC P w K mg base N qual scope f cdv A outer s H E) ⟨K, cA, E⟩ k → DSs (bodyC P w K mg base N qual scope f cdv A outer s H E) ⟨K, cA, E⟩ body g) :
    FnOk P w K mg base (L2N.CX P w) (k + 1) f fd ps (spD K cA ps.length (runF N.length g)) := by
  refine FD.ok S (fun vs H Q E h => h.1) (fun cdv A outer s H vs Q E hr ⟨hl, M, ds, mk, r, h⟩ => ⟨_, (hbody cdv A outer s H E (good_body S.nd hr)).pss, ?_⟩)
  refine ⟨⟨M, H, false⟩, M, startE N.length ds, startE_env mk r, ?_⟩
  unfold runF at h
  cases hg : g (startE N.length ds) with
  | ok res =>
    rw [hg] at h
    obtain ⟨fl, ρ'⟩ := res
    cases fl with
    | nx => exact fun σ' H' M' s' e' => (show ∀ v H' M', GrowT K M H M' H' → Rep K M' v .none → Q v H' from h) _ H' M' e'.growth .non
    | bk => exact h.elim
    | ct => exact h.elim
    | rt d => exact fun v σ' H' M' s' e' r' => (show ∀ v H' M', GrowT K M H M' H' → Rep K M' v d → Q v H' from h) v H' M' e'.growth r'
    | rtL xs => exact fun l ws σ' H' M' s' e' hl ml il r' => (show ∀ v H' M', GrowT K M H M' H' → Rep K M' v (.list xs) → Q v H' from h) _ H' _ (e'.growth.adopt hl rfl ml il) (.newL ml r')
    | rtP xs d => exact h.elim
  | exc n =>
    rw [hg] at h
    exact h.elim
  | stuck => rw [hg] at h; exact h.elim
theorem df_mk {x qual : Str} {params : Arguments} {body : List Stmt} {scope : Scope} {kws : List (Str × V)} {f : Addr} {fd : FuncData} {N ps : List Str} {k : Nat} {g : GS B} (FD : FunD K x qual params body scope [] kws f fd) (S : FnScope N ps scope)
    (hb : Binds K fd ps []) (gx : mg x = some (.ref f))
    (hbody : ∀ (cdv : Value) (A : Around) (outer : List PySem.Env) (s : Shared) (H : Hp) (E : XK), GoodS (B := B) (bodyC P w K mg base N qual scope f cdv A outer s H E) ⟨K, cA, E⟩ k → DSs (bodyC P w K mg base N qual scope f cdv A outer s H E) ⟨K, cA, E⟩ body g) :
    Df P w K mg base cA x (k + 1) ps.length (runF N.length g) := ⟨f, fd, ps, rfl, fnok_mk FD S hbody, gx, FD.kp, hb⟩
theorem dfl_mk {x qual : Str} {params : Arguments} {body : List Stmt} {scope : Scope} {kws : List (Str × V)} {f : Addr} {fd : FuncData} {N ps : List Str} {k : Nat} {g : GS B} (FD : FunD K x qual params body scope [] kws f fd) (S : FnScope N ps scope)
    (hb : Binds K fd ps []) (gx : mg x = some (.ref f))
    (hbody : ∀ (cdv : Value) (A : Around) (outer : List PySem.Env) (s : Shared) (H : Hp) (E : XK), GoodS (B := B) (bodyC P w K mg base N qual scope f cdv A outer s H E) ⟨K, cA, E⟩ k → DSs (bodyC P w K mg base N qual scope f cdv A outer s H E) ⟨K, cA, E⟩ body g) :
    DfL P w K mg base cA x (k + 1) ps.length (runL N.length g) := by
  refine ⟨f, fd, ps, rfl, FD.ok S (fun vs H Q E h => h.1) (fun cdv A outer s H vs Q E hr ⟨hl, M, ds, mk, r, h⟩ => ⟨_, (hbody cdv A outer s H E (good_body S.nd hr)).pss, ?_⟩), gx, FD.kp, hb⟩
  refine ⟨⟨M, H, false⟩, M, startE N.length ds, startE_env mk r, ?_⟩
  unfold runL at h
  cases hg : g (startE N.length ds) with
  | ok res =>
    rw [hg] at h
    obtain ⟨fl, ρ'⟩ := res
    cases fl with
    | nx => exact h.elim
    | bk => exact h.elim
    | ct => exact h.elim
    | rt d => exact h.elim
    | rtL xs => exact fun l ws σ' H' M' s' e' hl ml il r' => (show ∀ l ws H' M', GrowT K M H M' H' → H' l = some (.lst ws) → M' l = none → H l = none → Reps K M' ws xs → Q (.ref l) H' from h) l ws H' M' e'.growth hl ml il r'
    | rtP xs d => exact h.elim
  | exc n =>
    rw [hg] at h
    exact h.elim
  | stuck => rw [hg] at h; exact h.elim
end
/-- the facts that a law's text gives -/
structure Facts (K : PySem.W.Frag) (mg : Str → Option Value) (fa : List He.Fa) (fn : List He.DefD) : Prop where
  says : He.SaysD fa fn K
  at_ : ∃ h : Heap, K.In h ∧ h.Ns mainGlobals mg
namespace Facts
variable {K : PySem.W.Frag} {mg : Str → Option Value} {fa : List He.Fa} {fn : List He.DefD} (T : Facts K mg fa fn)
include T
theorem glo (i : Nat) {x : Str} (h : fa[i]? = some (.glo x) := by rfl) : mg x = some (.ref (He.ga K x)) := by
  obtain ⟨hh, X, G⟩ := T.at_
  exact He.glo_ok X G (T.says.fact i h)
theorem free (i : Nat) {x : Str} (h : fa[i]? = some (.free x) := by rfl) : mg x = none := by
  obtain ⟨hh, X, G⟩ := T.at_
  exact He.free_ok X G (T.says.fact i h)
theorem int (i : Nat) {x : Str} {z : Int} (h : fa[i]? = some (.int x z) := by rfl) : ∃ t, mg x = some (.int z t) := by
  obtain ⟨hh, X, G⟩ := T.at_
  exact He.int_ok X G (T.says.fact i h)
theorem exc {X : Cx} (hX : X.K = K) (hm : X.mg = mg) (i j : Nat) {x : Str} (h : fa[i]? = some (.exc x) := by rfl) (h2 : fa[j]? = some (.glo x) := by rfl) : ExcF X (He.ga K x) x := by
  obtain ⟨a, b, c, d⟩ := He.exc_ok (T.says.fact i h)
  subst hX hm
  exact ⟨T.glo j h2, a, b, c, d⟩
end Facts
section
variable {B : ObjB} {X : Cx} {c : Ctx B} {pos : Pos}
theorem de_gint {x : Str} {z : Int} (h : ∃ t, X.mg x = some (.int z t)) (hg : Gl X x := by rfl) (hd : (x == ("__debug__" : Str)) = false := by decide) : DE X c (.Name x pos) (eC (.int z)) := by
  obtain ⟨t, h⟩ := h
  exact de_glob (v := .int z) (d := .int z) hg h ⟨t, rfl⟩ (fun _ => .int z) hd
end
end PL

set_option Elab.async false
set_option linter.all false
set_option maxRecDepth 100000
set_option maxHeartbeats 4000000
/-! sorted, sets of ints -/
namespace PL
open PySem PySem.Spec PyProof.Rows L2
/-! ### sorting by insertion -/
def insD {α : Type} (le : α → α → Bool) (x : α) : List α → List α
  | [] => [x]
  | y :: r => if le x y = true then x :: y :: r else y :: insD le x r
def isort {α : Type} (le : α → α → Bool) : List α → List α
  | [] => []
  | x :: r => insD le x (isort le r)
section
variable {α : Type} {le : α → α → Bool}
theorem insD_mem {x z : α} : ∀ {l : List α}, z ∈ insD le x l ↔ z = x ∨ z ∈ l
  | [] => by simp [insD]
  | y :: r => by
    unfold insD
    split
    · simp
    · rw [List.mem_cons, insD_mem, List.mem_cons]
      constructor
      · rintro (h | h | h)
        · exact .inr (.inl h)
        · exact .inl h
        · exact .inr (.inr h)
      · rintro (h | h | h)
        · exact .inr (.inl h)
        · exact .inl h
        · exact .inr (.inr h)
theorem insD_sorted (h : PySem.W.TotalLe le) {x : α} : ∀ {l : List α}, l.Pairwise (fun a b => le a b = true) → (insD le x l).Pairwise (fun a b => le a b = true)
  | [], _ => by simp [insD]
  | y :: r, p => by
    unfold insD
    obtain ⟨p1, p2⟩ := List.pairwise_cons.mp p
    split
    · rename_i hxy
      refine List.pairwise_cons.mpr ⟨fun z hz => ?_, p⟩
      rcases List.mem_cons.mp hz with rfl | hz
      · exact hxy
      · exact h.trans _ _ _ hxy (p1 z hz)
    · rename_i hxy
      refine List.pairwise_cons.mpr ⟨fun z hz => ?_, insD_sorted h p2⟩
      rcases insD_mem.mp hz with rfl | hz
      · exact (h.total y z).resolve_right hxy
      · exact p1 z hz
theorem insD_filter (h : PySem.W.TotalLe le) {x : α} (c : α) : ∀ {l : List α}, (insD le x l).filter (PySem.W.sameRank le c) = (x :: l).filter (PySem.W.sameRank le c)
  | [] => rfl
  | y :: r => by
    unfold insD
    split
    · rfl
    · rename_i hxy
      rw [List.filter_cons, insD_filter h c]
      have key : ¬ (PySem.W.sameRank le c x = true ∧ PySem.W.sameRank le c y = true) := by
        rintro ⟨a, b⟩
        have a' : (le c x && le x c) = true := a
        have b' : (le c y && le y c) = true := b
        rw [Bool.and_eq_true] at a' b'
        exact hxy (h.trans _ _ _ a'.2 b'.1)
      by_cases hx : PySem.W.sameRank le c x = true
      · have hy : ¬ PySem.W.sameRank le c y = true := fun z => key ⟨hx, z⟩
        simp [hx, hy]
      · by_cases hy : PySem.W.sameRank le c y = true <;> simp [hx, hy]
theorem isort_sorted (h : PySem.W.TotalLe le) : ∀ l : List α, (isort le l).Pairwise (fun a b => le a b = true)
  | [] => .nil
  | x :: r => insD_sorted h (isort_sorted h r)
theorem isort_filter (h : PySem.W.TotalLe le) (c : α) : ∀ l : List α, (isort le l).filter (PySem.W.sameRank le c) = l.filter (PySem.W.sameRank le c)
  | [] => rfl
  | x :: r => by
    unfold isort
    rw [insD_filter h, List.filter_cons, List.filter_cons, isort_filter h c r]
theorem isort_eq (h : PySem.W.TotalLe le) (l : List α) : l.mergeSort le = isort le l := (PySem.W.sort_unique h (isort_sorted h l) fun c => isort_filter h c l).symm
theorem isort_memi : ∀ {l : List α} {z : α}, z ∈ isort le l ↔ z ∈ l
  | [], z => by simp [isort]
  | x :: r, z => by unfold isort; rw [insD_mem, isort_memi, List.mem_cons]
theorem insD_length {x : α} : ∀ {l : List α}, (insD le x l).length = l.length + 1
  | [] => rfl
  | y :: r => by
    unfold insD
    split
    · rfl
    · rw [List.length_cons, insD_length]; rfl
theorem isort_length : ∀ {l : List α}, (isort le l).length = l.length
  | [] => rfl
  | x :: r => by unfold isort; rw [insD_length, isort_length]; rfl
end
abbrev leD : D → D → Bool := PySem.W.dataLe false id
theorem leD_total : PySem.W.TotalLe leD := PySem.W.sortLe_total _ _ _
def alikeB (ds : List D) : Bool := ds.all fun d => ds.all fun e => PySem.W.alike d e
def sortableB (ds : List D) : Bool := (ds.all fun d => match d with | .tuple (_ :: _) => true | _ => false) || (ds.all fun d => match d with | .none => false | .tuple _ => false | _ => true)
def deep64 (ds : List D) : Bool := ds.all fun d => decide (d.depth ≤ 64)
/-- sorted(xs) of a list -/
def lSorted (xs : List D) : R (List D) := match xs with
  | [.list ds] => if (alikeB ds && sortableB ds && deep64 ds && PyData.canLayAll0 ds) = true ∧ ds.length ≤ 100000 then .ok (isort leD ds) else .stuck
  | _ => .stuck
def rSortedD (K : PySem.W.Frag) : List V → Hp → VK → Prop := fun vs H Q => ∃ (a : Addr) (xs : List V) (ds : List D), vs = [.ref a] ∧ SqL K H a xs ∧ DpAll K H xs ds ∧ (alikeB ds && sortableB ds && deep64 ds && PyData.canLayAll0 ds) = true ∧ ds.length ≤ 100000 ∧
  ∀ (zs : List (V × D)) (p : Addr), zs = isort (fun a b => leD a.2 b.2) (xs.zip ds) → H p = none → Q (.ref p) (upd H p (.lst (zs.map (·.1))))
theorem dpAll_length {K : PySem.W.Frag} {H : Hp} : ∀ {xs : List V} {ds : List D}, DpAll K H xs ds → xs.length = ds.length
  | _, _, .nil => rfl
  | _, _, .cons _ t => congrArg Nat.succ (dpAll_length t)
theorem each_zip {K : PySem.W.Frag} {H : Hp} {h : Heap} : ∀ {xs : List V} {ds : List D} {us : List Value}, Vals xs us → xs.length = ds.length → PySem.W.EachIs (fun v (b : V × D) => RelV b.1 v) us (xs.zip ds)
  | [], [], _, .nil, _ => .nil
  | x :: xs, d :: ds, _, .cons r t, e => .cons r (each_zip (K := K) (H := H) (h := h) t (by simpa using e))
theorem each_reads {h : Heap} : ∀ {xs : List V} {ds : List D} {us : List Value} {as : List Addr}, ReadsAll h us ds as → xs.length = ds.length → PySem.W.EachIs (fun v (b : V × D) => ∃ as, Reads h v b.2 as) us (xs.zip ds)
  | [], [], _, _, .nil, _ => .nil
  | x :: xs, d :: ds, _, _, .cons r t, e => .cons ⟨_, r⟩ (each_reads t (by simpa using e))
theorem each_vals : ∀ {zs : List (V × D)} {us : List Value}, PySem.W.EachIs (fun v (b : V × D) => RelV b.1 v) us zs → Vals (zs.map (·.1)) us
  | _, _, .nil => .nil
  | _, _, .cons r t => .cons r (each_vals t)
theorem zip_snd : ∀ {xs : List V} {ds : List D}, xs.length = ds.length → (xs.zip ds).map (·.2) = ds
  | [], [], _ => rfl
  | x :: xs, d :: ds, e => by
    show d :: (xs.zip ds).map (·.2) = d :: ds
    rw [zip_snd (by simpa using e)]
theorem cr_sortedD {X : Cx} (hu : X.A.units + 100 < cLine) : CallR X (.builtin "sorted") (rSortedD X.K) := by
  intro pins s σ H vs us Q I r h
  obtain ⟨a, xs, ds, rfl, hs, hd, hb, hlen, q⟩ := h
  simp only [Bool.and_eq_true] at hb
  obtain ⟨⟨⟨b1, b2⟩, b3⟩, b4⟩ := hb
  rw [Vals.ref1 r]
  obtain ⟨its, rv, p, hz⟩ := I.list hs
  have hl := dpAll_length hd
  obtain ⟨as, hr⟩ := Dp.readsAll I ds xs its hd rv
  have em : (xs.zip ds).map (·.2) = ds := zip_snd hl
  have hal : PySem.W.AllAlike ((xs.zip ds).map (·.2)) := by
    rw [em]
    intro d hd d' hd'
    exact List.all_eq_true.mp (List.all_eq_true.mp b1 d hd) d' hd'
  have hk : PySem.W.Sortable ((xs.zip ds).map (·.2)) := by
    rw [em]
    rcases Bool.or_eq_true_iff.mp b2 with b2 | b2
    · refine .inl fun d hd => ?_
      have z := List.all_eq_true.mp b2 d hd
      split at z
      · exact ⟨_, _, rfl⟩
      · cases z
    · refine .inr fun d hd => ?_
      have z := List.all_eq_true.mp b2 d hd
      split at z
      · cases z
      · cases z
      · rename_i n1 n2
        exact ⟨fun e => n1 e, fun ys e => n2 ys e⟩
  refine PySem.W.sorted_data (enc := fun b : V × D => b.2) (R := fun v (b : V × D) => RelV b.1 v) p.isList (each_zip (K := X.K) (H := H) (h := s.heap) rv hl) (each_reads hr hl) hal hk ?_ (fun b hb => ?_) fun out ho he => ?_
  · rw [List.length_zip, hl, Nat.min_self]; exact le_line5 hlen
  · have : b.2 ∈ ds := by rw [← em]; exact List.mem_map.mpr ⟨b, hb, rfl⟩
    have := of_decide_eq_true (List.all_eq_true.mp b3 b.2 this)
    omega
  · have tot : PySem.W.TotalLe (PySem.W.dataLe false fun b : V × D => b.2) := PySem.W.sortLe_total _ _ _
    rw [isort_eq tot] at he
    obtain ⟨c, hg⟩ := PyProof.Rows.sortedAll_at s.heap its (List.toArray out)
    have hp : s.heap.objs.size ≤ s.heap.objs.size + 1 := Nat.le_succ _
    have hn : H (s.heap.objs.size + 1) = none := I.hok.fresh hp
    have hzl : ((isort (PySem.W.dataLe false fun b : V × D => b.2) (xs.zip ds)).map (·.1)).length ≤ sizeLine := by
      rw [List.length_map, isort_length, List.length_zip, hl, Nat.min_self]; exact le_line5 hlen
    refine ⟨.ref (s.heap.objs.size + 1), _, I.laid (o := .lst ((isort (PySem.W.dataLe false fun b : V × D => b.2) (xs.zip ds)).map (·.1))) (t' := s.toks) (fun b u e => PyProof.Rows.sortedAll_old e) hp ⟨hzl, out, c, each_vals he, hg⟩, rfl, q _ _ rfl hn⟩
theorem isort_zip {K : PySem.W.Frag} {M : Hp} : ∀ {xs : List V} {ds : List D}, Reps K M xs ds → Reps K M ((isort (fun a b : V × D => leD a.2 b.2) (xs.zip ds)).map (·.1)) (isort leD ds) := by
  have ins : ∀ {x : V} {d : D} {zs : List (V × D)}, Rep K M x d → Reps K M (zs.map (·.1)) (zs.map (·.2)) → Reps K M ((insD (fun a b : V × D => leD a.2 b.2) (x, d) zs).map (·.1)) ((insD (fun a b : V × D => leD a.2 b.2) (x, d) zs).map (·.2)) ∧
      (insD (fun a b : V × D => leD a.2 b.2) (x, d) zs).map (fun b => b.2) = insD leD d (zs.map (fun b => b.2)) := by
    intro x d zs hx
    induction zs with
    | nil => intro _; exact ⟨.cons hx .nil, rfl⟩
    | cons y r ih =>
      intro h
      cases h with
      | cons h1 h2 =>
        obtain ⟨i1, i2⟩ := ih h2
        by_cases c : leD d y.2 = true
        · simp only [insD, List.map_cons]
          rw [if_pos c, if_pos c]
          exact ⟨.cons hx (.cons h1 h2), rfl⟩
        · simp only [insD, List.map_cons]
          rw [if_neg c, if_neg c]
          exact ⟨.cons h1 i1, by rw [List.map_cons, i2]⟩
  have key : ∀ {xs : List V} {ds : List D}, Reps K M xs ds → Reps K M ((isort (fun a b : V × D => leD a.2 b.2) (xs.zip ds)).map (·.1)) ((isort (fun a b : V × D => leD a.2 b.2) (xs.zip ds)).map (·.2)) ∧
      (isort (fun a b : V × D => leD a.2 b.2) (xs.zip ds)).map (·.2) = isort leD ds := by
    intro xs ds h
    induction xs generalizing ds with
    | nil => cases h; exact ⟨.nil, rfl⟩
    | cons x xs ih =>
      cases h with
      | cons h1 h2 =>
        obtain ⟨i1, i2⟩ := ih h2
        obtain ⟨j1, j2⟩ := ins (zs := isort (fun a b : V × D => leD a.2 b.2) (xs.zip _)) h1 i1
        refine ⟨j1, ?_⟩
        exact j2.trans (by rw [i2]; rfl)
  intro xs ds h
  obtain ⟨a, b⟩ := key h
  rw [b] at a
  exact a
section
variable {B : ObjB} {X : Cx} {c : Ctx B} {pos : Pos}
theorem boot_sortedB : bootBuiltins "sorted" = some (.builtin "sorted") := by decide +kernel
theorem boot_setT : bootBuiltins "set" = some (.type "set") := by decide +kernel
def eSorted (f : Env B → R (List D)) : Env B → R (List D) := fun ρ => (f ρ).bind fun xs => lSorted xs
theorem units100 {k : Nat} (h : Room k X.A) : X.A.units + 100 < cLine := by have := h.un; omega
theorem dl_sorted {e : Expr} {es : List Expr} {f : Env B → R (List D)} {p : Pos} {k : Nat} (G : Good X c k) (hm : X.mg "sorted" = none) (ha : DA X c (e :: es) f) (hg : Gl X "sorted" := by rfl) (he : starEach (e :: es) X.env = (false, eval e X.env) :: starEach es X.env := by rfl) (hpl : (backTo pos (starEach es X.env)).any (·.1) = false := by rfl) :
    DL X c (.Call (.Name "sorted" p) (e :: es) [] pos) (eSorted f) := by
  refine ⟨PE.imp (pe_callB (cr_sortedD (units100 G.room)) hg hm boot_sortedB ha.pa (he := he) (hpl := hpl)) fun σ H Q ⟨I, M, ρ, e, q⟩ => ?_⟩
  refine ⟨I, M, ρ, e, q.bind.mono fun x hx v H1 M1 k1 e1 r1 => ?_⟩
  unfold lSorted at hx
  split at hx
  · split at hx
    · rename_i hc
      obtain ⟨hb, hl⟩ := hc
      cases r1 with
      | cons r1 r2 =>
        cases r2
        cases r1 with
        | lst h r =>
          have hb' := hb
          simp only [Bool.and_eq_true] at hb'
          refine ⟨_, _, _, rfl, SqL.of (e1.mok.same _ _ h), DpAll.up e1.mok.same (G.K ▸ r.dp hb'.2), hb, hl, fun zs p hz hp => ?_⟩
          subst hz
          exact fresh_end hx k1 e1 (isort_zip r) p hp
    · exact hx.elim
  · exact hx.elim

/-! ### sets of ints -/
/-- the members, rising -/
def insU (x : Int) : List Int → List Int
  | [] => [x]
  | y :: r => if x < y then x :: y :: r else if x = y then y :: r else y :: insU x r
def distI : List Int → List Int
  | [] => []
  | x :: r => insU x (distI r)
theorem insU_mem {x z : Int} : ∀ {l : List Int}, z ∈ insU x l ↔ z = x ∨ z ∈ l
  | [] => by simp [insU]
  | y :: r => by
    unfold insU
    split
    · simp
    · split
      · rename_i h; subst h; simp
      · rw [List.mem_cons, insU_mem, List.mem_cons]
        constructor
        · rintro (h | h | h)
          · exact .inr (.inl h)
          · exact .inl h
          · exact .inr (.inr h)
        · rintro (h | h | h)
          · exact .inr (.inl h)
          · exact .inl h
          · exact .inr (.inr h)
theorem insU_up {x : Int} : ∀ {l : List Int}, l.Pairwise (· < ·) → (insU x l).Pairwise (· < ·)
  | [], _ => by simp [insU]
  | y :: r, p => by
    unfold insU
    obtain ⟨p1, p2⟩ := List.pairwise_cons.mp p
    split
    · rename_i h
      refine List.pairwise_cons.mpr ⟨fun z hz => ?_, p⟩
      rcases List.mem_cons.mp hz with rfl | hz
      · exact h
      · have := p1 z hz; omega
    · split
      · exact p
      · refine List.pairwise_cons.mpr ⟨fun z hz => ?_, insU_up p2⟩
        rcases insU_mem.mp hz with rfl | hz
        · omega
        · exact p1 z hz
theorem distI_mem : ∀ {l : List Int} {z : Int}, z ∈ distI l ↔ z ∈ l
  | [], z => by simp [distI]
  | x :: r, z => by unfold distI; rw [insU_mem, distI_mem, List.mem_cons]
theorem distI_up : ∀ l : List Int, (distI l).Pairwise (· < ·)
  | [] => .nil
  | x :: r => insU_up (distI_up r)
theorem up_unique : ∀ {a b : List Int}, a.Pairwise (· < ·) → b.Pairwise (· < ·) → (∀ z, z ∈ a ↔ z ∈ b) → a = b
  | [], [], _, _, _ => rfl
  | [], y :: b, _, _, h => absurd ((h y).mpr (by simp)) (by simp)
  | x :: a, [], _, _, h => absurd ((h x).mp (by simp)) (by simp)
  | x :: a, y :: b, pa, pb, h => by
    obtain ⟨a1, a2⟩ := List.pairwise_cons.mp pa
    obtain ⟨b1, b2⟩ := List.pairwise_cons.mp pb
    have e : x = y := by
      have hx := (h x).mp (by simp)
      have hy := (h y).mpr (by simp)
      rcases List.mem_cons.mp hx with e | hx
      · exact e
      · rcases List.mem_cons.mp hy with e | hy
        · exact e.symm
        · have := b1 x hx; have := a1 y hy; omega
    subst e
    rw [up_unique a2 b2 fun z => ?_]
    constructor
    · intro hz
      rcases List.mem_cons.mp ((h z).mp (List.mem_cons_of_mem _ hz)) with e | q
      · subst e; exact absurd (a1 z hz) (by omega)
      · exact q
    · intro hz
      rcases List.mem_cons.mp ((h z).mpr (List.mem_cons_of_mem _ hz)) with e | q
      · subst e; exact absurd (b1 z hz) (by omega)
      · exact q
theorem up_nodup {a : List Int} (h : a.Pairwise (· < ·)) : a.Nodup := h.imp fun h e => by omega
theorem nodup_len : ∀ {a b : List Int}, a.Nodup → b.Nodup → (∀ z, z ∈ a ↔ z ∈ b) → a.length = b.length := fun {a b} ha hb h =>
  ((List.perm_ext_iff_of_nodup ha hb).mpr h).length_eq
def setInts (x : D) : R (List Int) := match x with
  | .tuple ds => match intsOf ds with
    | some ns => if ns.length ≤ 60 then .ok ns else .stuck
    | none => .stuck
  | _ => .stuck
/-- sorted(set(t)), len(set(t)), t a tuple of ints -/
def eSortSet (f : Env B → R D) : Env B → R (List D) := fun ρ => (f ρ).bind fun x => (setInts x).bind fun ns => .ok ((distI ns).map .int)
def eLenSet (f : Env B → R D) : Env B → R D := fun ρ => (f ρ).bind fun x => (setInts x).bind fun ns => .ok (.int (distI ns).length)
theorem setInts_rd {I : Ent} {x : D} {P : List Int → Prop} (h : RD c I (setInts x) P) : ∃ ns, x = .tuple (ns.map .int) ∧ ns.length ≤ 60 ∧ P ns := by
  unfold setInts at h
  split at h
  · split at h
    · rename_i ns hn
      split at h
      · exact ⟨ns, by rw [intsOf_eq hn], by assumption, h⟩
      · exact h.elim
    · exact h.elim
  · exact h.elim
/-- set(t): the set stands -/
def rSetT (K : PySem.W.Frag) (w : World) : V → Hp → VK → Prop := fun x H Q => ∃ (l : Addr) (ns : List Int), x = .ref l ∧ SqT K H l (ns.map V.int) ∧ ns.length ≤ 60 ∧ ∀ p n, H p = none → n ≤ ns.length → (distI ns).length = n → Q (.ref p) (upd H p (SetO w p (fun j => decide (j ∈ ns)) n))
theorem setR_len {w : World} {h : Heap} {a : Addr} {ns : List Int} {n : Nat} (R : SetR w h a (fun j => decide (j ∈ ns)) n) : (distI ns).length = n := by
  obtain ⟨o, es, ep, t, _, _, _, g, nd, hm, _, _, hn, _, _⟩ := R
  have e : (distI ns).length = (es.toList.map keyOf).length := nodup_len (up_nodup (distI_up ns)) nd fun z => by
    rw [distI_mem, ← hm z]
    simp
  rw [e, List.length_map, Array.length_toList, hn]
theorem pe_setT {a : Expr} {ta : TE} {p q : Pos} (hg2 : Gl X "set") (hm2 : X.mg "set" = none) (hc : X.calm = true) (ha : PE X a ta) (na : starEach [a] X.env = (false, eval a X.env) :: starEach [] X.env := by rfl) : PE X (.Call (.Name "set" p) [a] [] q) (tUn (rSetT X.K X.w) ta) := by
  refine ⟨fun pins s σ H Q I h => ?_⟩
  refine Call_ (ld_blt I hg2 hm2 PyProof.Rows.boot_set ?_)
  refine PyProof.Rows.callWith_type1 (PyProof.Rows.args_cons (thn (ha.run pins s σ H _ I h) fun v s1 ⟨x, H1, I1, r1, q1⟩ => PyProof.Rows.args_nil ?_) na) na rfl
  obtain ⟨l, ns, rfl, hq, hl, q1⟩ := q1
  cases r1
  obtain ⟨its, rv, pt, hz⟩ := I1.tuple hq
  have hi : IntsAre its.toArray.toList ns := by simpa using Vals.ints rv
  refine call_set_tupI ns (I1.ok.hd hc) (show s1.heap.IsTuple l its.toArray from pt) hi (by unfold scanBound; omega) fun h' tk n R1 hcn k => ?_
  have hn : H1 s1.heap.objs.size = none := I1.hok.fresh (Nat.le_refl _)
  exact ⟨.ref s1.heap.objs.size, _, I1.laid (t' := tk) k (Nat.le_refl _) (setO_new R1), rfl, q1 _ n hn hcn (setR_len R1)⟩
theorem dl_sortSet {a : Expr} {f : Env B → R D} {p p2 q : Pos} {k : Nat} (G : Good X c k) (hm : X.mg "sorted" = none) (hm2 : X.mg "set" = none) (ha : DE X c a f) (hg : Gl X "sorted" := by rfl) (hg2 : Gl X "set" := by rfl)
    (na : starEach [a] X.env = (false, eval a X.env) :: starEach [] X.env := by rfl) (he : starEach [.Call (.Name "set" p2) [a] [] q] X.env = (false, eval (.Call (.Name "set" p2) [a] [] q) X.env) :: starEach [] X.env := by rfl) :
    DL X c (.Call (.Name "sorted" p) [.Call (.Name "set" p2) [a] [] q] [] pos) (eSortSet f) := by
  refine ⟨PE.imp (pe_callB (cr_sortedSet G.calm) hg hm boot_sortedB (pa_cons (pe_setT hg2 hm2 G.calm ha.pe na) pa_nil he) (he := he) (hpl := rfl)) fun σ H Q ⟨I, M, ρ, e, q⟩ => ?_⟩
  refine ⟨I, M, ρ, e, q.bind.mono fun x hx v H1 M1 k1 e1 r1 => ?_⟩
  obtain ⟨ns, rfl, hl, hx⟩ := setInts_rd hx.bind
  cases r1 with
  | tup h r =>
    cases r.ints
    refine ⟨_, ns, rfl, G.K ▸ sqT_same e1.mok.same h, hl, fun p0 n hp hn hd => ?_⟩
    refine ⟨p0, _, n, rfl, upd_same, by omega, fun ms p1 hup hmem hlen hp1 => ?_⟩
    have em : ms = distI ns := up_unique hup (distI_up ns) fun z => by rw [hmem z, distI_mem]; simp
    subst em
    -- the set itself stays behind
    have sm : Same H1 (upd H1 p0 (SetO X.w p0 (fun j => decide (j ∈ ns)) n)) := upd_same_of hp
    have g : Grow M1 H1 M1 (upd H1 p0 (SetO X.w p0 (fun j => decide (j ∈ ns)) n)) := ⟨sm, Same.refl _, fun b o z => ⟨sm _ _ (e1.mok b o z).1, (e1.mok b o z).2⟩, (fun b o z n => by rw [z] at n; cases n), (fun b o z n => by rw [z] at n; cases n)⟩
    exact fresh_end hx (k1.trans (.of g)) (e1.grow g) (Reps.of_ints _) p1 hp1
theorem call_len_setO {pins : List (Addr × Obj)} {σ : L2.St} {H : Hp} {s : Shared} {a : Addr} {S : Int → Bool} {n : Nat} {Q : VK} (I : Inv X pins σ H s) (ha : H a = some (SetO X.w a S n)) (hn : n < 100) (q : Q (.int n) H) : wpAny (model X.prog X.w) X.A (PySem.call (.builtin "len") [.ref a]) (EP X pins σ Q) X.xe s := by
  obtain ⟨o, es, ep, t, ho, hex, hd, _, _, _, _, hf, hn', _⟩ := setO_get I ha
  exact call_len_set ho hex hd hf (by omega) ⟨.int n, H, I.tok _, ⟨_, by rw [hn']⟩, q⟩
theorem de_lenSet {a : Expr} {f : Env B → R D} {p p2 q : Pos} {k : Nat} (G : Good X c k) (hm : X.mg "len" = none) (hm2 : X.mg "set" = none) (ha : DE X c a f) (hg : Gl X "len" := by rfl) (hg2 : Gl X "set" := by rfl)
    (na : starEach [a] X.env = (false, eval a X.env) :: starEach [] X.env := by rfl) (he : starEach [.Call (.Name "set" p2) [a] [] q] X.env = (false, eval (.Call (.Name "set" p2) [a] [] q) X.env) :: starEach [] X.env := by rfl) :
    DE X c (.Call (.Name "len" p) [.Call (.Name "set" p2) [a] [] q] [] pos) (eLenSet f) := by
  have hcall : CallR X (.builtin "len") (fun xs H Q => ∃ a S n, xs = [.ref a] ∧ H a = some (SetO X.w a S n) ∧ n < 100 ∧ Q (.int n) H) := by
    intro pins s σ H xs us Q I r h
    obtain ⟨a, S, n, rfl, ha, hn, q⟩ := h
    rw [Vals.ref1 r]
    exact call_len_setO I ha hn q
  refine ⟨PE.imp (pe_callB hcall hg hm PySem.boot_len (pa_cons (pe_setT hg2 hm2 G.calm ha.pe na) pa_nil he) (he := he) (hpl := rfl)) fun σ H Q ⟨I, M, ρ, e, q⟩ => ?_⟩
  refine ⟨I, M, ρ, e, q.bind.mono fun x hx v H1 M1 k1 e1 r1 => ?_⟩
  obtain ⟨ns, rfl, hl, hx⟩ := setInts_rd hx.bind
  cases r1 with
  | tup h r =>
    cases r.ints
    refine ⟨_, ns, rfl, G.K ▸ sqT_same e1.mok.same h, hl, fun p0 n hp hn hd => ?_⟩
    have sm : Same H1 (upd H1 p0 (SetO X.w p0 (fun j => decide (j ∈ ns)) n)) := upd_same_of hp
    have g : Grow M1 H1 M1 (upd H1 p0 (SetO X.w p0 (fun j => decide (j ∈ ns)) n)) := ⟨sm, Same.refl _, fun b o z => ⟨sm _ _ (e1.mok b o z).1, (e1.mok b o z).2⟩, (fun b o z n => by rw [z] at n; cases n), (fun b o z n => by rw [z] at n; cases n)⟩
    refine ⟨p0, _, n, rfl, upd_same, by omega, ?_⟩
    rw [hd] at hx
    exact hx _ _ M1 (k1.trans (.of g)) (e1.grow g) (.int _)
end
end PL

set_option Elab.async false
set_option linter.all false
set_option maxRecDepth 100000
set_option maxHeartbeats 4000000
/-! more conversions -/
namespace PL
open PySem PySem.Spec PyProof.Rows L2
section
variable {B : ObjB} {X : Cx} {c : Ctx B} {pos : Pos} {K : PySem.W.Frag} {I : Ent} {M H M' H' : Hp} {σ σ' : L2.St} {ρ ρ' : Env B}
/-- list(range(n)) -/
def lListRange (f : Env B → R D) : Env B → R (List D) := fun ρ => (f ρ).bind fun x => match x with
  | .int j => if -100000 ≤ j ∧ j ≤ 100000 then .ok (rangeD 0 j) else .stuck
  | _ => .stuck
theorem reps_rg {a b : Int} : Reps K M (rgV a b) (rangeD a b) := by
  have e1 : rgV a b = ((List.range (b - a).toNat).map fun i : Nat => a + (i : Int)).map V.int := by unfold rgV; rw [List.map_map]; rfl
  have e2 : rangeD a b = ((List.range (b - a).toNat).map fun i : Nat => a + (i : Int)).map PyData.int := by unfold rangeD; rw [List.map_map]; rfl
  rw [e1, e2]
  exact Reps.of_ints _
theorem dl_listRange {a : Expr} {f : Env B → R D} {p p2 q : Pos} {k : Nat} (G : Good X c k) (hm : X.mg "list" = none) (hm2 : X.mg "range" = none) (ha : DE X c a f) (hg : Gl X "list" := by rfl) (hg2 : Gl X "range" := by rfl)
    (na : starEach [a] X.env = (false, eval a X.env) :: starEach [] X.env := by rfl) (he : starEach [.Call (.Name "range" p2) [a] [] q] X.env = (false, eval (.Call (.Name "range" p2) [a] [] q) X.env) :: starEach [] X.env := by rfl) :
    DL X c (.Call (.Name "list" p) [.Call (.Name "range" p2) [a] [] q] [] pos) (lListRange f) := by
  refine ⟨PE.imp (pe_listRg G.calm hg hm (prg_1 hg2 hm2 ha.pe na) he) fun σ H Q ⟨I, M, ρ, e, q⟩ => ?_⟩
  refine ⟨I, M, ρ, e, q.bind.mono fun x hx v H1 M1 k1 e1 r1 => ?_⟩
  split at hx
  · rename_i j
    split at hx
    · rename_i hb
      cases r1
      exact ⟨j, rfl, ⟨by omega, by omega, by omega, by omega, by omega⟩, fresh_end hx k1 e1 reps_rg⟩
    · exact hx.elim
  · exact hx.elim
/-- {} -/
theorem de_dic : DE X c (.Dict [] [] pos) (eC (.dict [])) := by
  refine ⟨PE.imp pe_dnewK fun σ H Q ⟨I, M, ρ, e, q⟩ => fun p hp => ?_⟩
  have g := Grow.alloc e.mok hp (o := .dK []) rfl
  exact q (.ref p) _ _ (.of g) (e.grow g) (.dic upd_same)
end
end PL

set_option Elab.async false
set_option linter.all false
set_option maxRecDepth 100000
set_option maxHeartbeats 4000000
/-! caught errors -/
namespace PL
open PySem PySem.Spec PyProof.Rows L2
/-! ### a hook with more facts -/
def hookX (n : Nat) (fa : List He.Fa) (fn : List He.DefD) (ex : PySem.W.Frag → Bool) : PySem.W.Hook where
  α := He.AlD
  obs := fun s => let K := He.frG s.heap.get? (He.asD s.heap.get? n); ((He.obsD fa fn K).1 && ex K, (He.obsD fa fn K).2)
  val := fun _ => He.valD fn
  says := fun _ h => ∃ K : PySem.W.Frag, K.In h ∧ He.SaysD fa fn K ∧ ex K = true
  of := fun _ _ e => by
    have e1 := congrArg (fun z : He.AlD => z.1) e
    have e2 := congrArg (fun z : He.AlD => z.2) e
    obtain ⟨b1, b2⟩ := He.ba (show ((He.obsD fa fn _).1 && ex _) = true from e1)
    exact ⟨_, He.frG_in, Prod.ext b1 e2, b2⟩
  keeps := fun _ _ _ ⟨K, hK, c, d⟩ k => ⟨K, PySem.W.Frag.In.keeps hK k, c, d⟩
def obX (n : Nat) (fa : List He.Fa) (fn : List He.DefD) (ex : PySem.W.Frag → Bool) (g : Addr → Option Obj) : He.AlD := ((He.obsD fa fn (He.frG g (He.asD g n))).1 && ex (He.frG g (He.asD g n)), (He.obsD fa fn (He.frG g (He.asD g n))).2)
theorem obX_eq {n : Nat} {fa : List He.Fa} {fn : List He.DefD} {ex : PySem.W.Frag → Bool} {g : Addr → Option Obj} {s : Shared} (h : ∀ a, g a = s.heap.get? a) : obX n fa fn ex g = (hookX n fa fn ex).obs s := by
  have e : g = s.heap.get? := funext h
  rw [e] <;> rfl

end PL

set_option Elab.async false
set_option linter.all false
set_option maxRecDepth 100000
set_option maxHeartbeats 4000000
namespace PL
open PySem PySem.Spec PyProof.Rows L2
structure FactsX (K : PySem.W.Frag) (mg : Str → Option Value) (fa : List He.Fa) (fn : List He.DefD) (ex : PySem.W.Frag → Bool) : Prop extends Facts K mg fa fn where
  ex : ex K = true
end PL

set_option Elab.async false
set_option linter.all false
set_option maxRecDepth 100000
set_option maxHeartbeats 4000000
/-! plain: laws of the combinators' values -/
namespace PL
open PySem

/-! ### data without truth values: equal is equal -/
mutual
def exact : D → Bool
  | .bool _ => false
  | .dict _ => false
  | .list xs => exacts xs
  | .tuple xs => exacts xs
  | _ => true
def exacts : List D → Bool
  | [] => true
  | x :: xs => exact x && exacts xs
end
mutual
theorem eqv_exact : ∀ (x y : D), exact x = true → exact y = true → (PyData.eqv x y = true ↔ x = y)
  | .none, y, _, hy => by cases y <;> simp [PyData.eqv, exact] at *
  | .bool _, y, hx, _ => by simp [exact] at hx
  | .int i, y, _, hy => by cases y <;> simp [PyData.eqv, exact] at *
  | .str s, y, _, hy => by cases y <;> simp [PyData.eqv, exact] at *
  | .list xs, y, hx, hy => by
    cases y with
    | list ys => rw [PyData.eqv, eqvs_exact xs ys (by simpa [exact] using hx) (by simpa [exact] using hy), PyData.list.injEq]
    | _ => simp [PyData.eqv]
  | .tuple xs, y, hx, hy => by
    cases y with
    | tuple ys => rw [PyData.eqv, eqvs_exact xs ys (by simpa [exact] using hx) (by simpa [exact] using hy), PyData.tuple.injEq]
    | _ => simp [PyData.eqv]
  | .dict _, y, hx, _ => by simp [exact] at hx
theorem eqvs_exact : ∀ (xs ys : List D), exacts xs = true → exacts ys = true → (PyData.eqvAll xs ys = true ↔ xs = ys)
  | [], [], _, _ => by simp [PyData.eqvAll]
  | [], _ :: _, _, _ => by simp [PyData.eqvAll]
  | _ :: _, [], _, _ => by simp [PyData.eqvAll]
  | x :: xs, y :: ys, hx, hy => by
    simp only [exacts, Bool.and_eq_true] at hx hy
    rw [PyData.eqvAll, Bool.and_eq_true, eqv_exact x y hx.1 hy.1, eqvs_exact xs ys hx.2 hy.2, List.cons.injEq]
end
theorem exacts_iff : ∀ {xs : List D}, exacts xs = true ↔ ∀ x ∈ xs, exact x = true
  | [] => by simp [exacts]
  | x :: xs => by simp [exacts, exacts_iff (xs := xs)]
/-! ### shapes -/
def sh (n : Nat) (d : D) : Prop := d.canLay0 = true ∧ d.depth ≤ n
theorem sh_up {n m : Nat} {d : D} (h : sh n d) (k : n ≤ m) : sh m d := ⟨h.1, Nat.le_trans h.2 k⟩
theorem shaped_sh {n : Nat} {d : D} (h : sh n d) (k : n ≤ 64 := by decide) : SeqAt.shaped d = true := by
  unfold SeqAt.shaped
  rw [h.1, Bool.true_and, decide_eq_true_eq]
  exact Nat.le_trans h.2 k
theorem sh_of_shaped {d : D} (h : SeqAt.shaped d = true) : sh 64 d := ⟨SeqAt.canLay_of_shaped h, SeqAt.depth_of_shaped h⟩
theorem canAll_iff : ∀ {xs : List D}, PyData.canLayAll0 xs = true ↔ ∀ x ∈ xs, x.canLay0 = true
  | [] => by simp [PyData.canLayAll0]
  | x :: xs => by simp [PyData.canLayAll0, canAll_iff (xs := xs)]
theorem depthAll_le {n : Nat} : ∀ {xs : List D}, (∀ x ∈ xs, x.depth ≤ n) → PyData.depthAll xs ≤ n
  | [], _ => by simp [PyData.depthAll]
  | x :: xs, h => by
    simp only [PyData.depthAll, Nat.max_le]
    exact ⟨h x (List.mem_cons_self ..), depthAll_le fun y hy => h y (List.mem_cons_of_mem _ hy)⟩
theorem depthAll_ge {n : Nat} : ∀ {xs : List D}, PyData.depthAll xs ≤ n → ∀ x ∈ xs, x.depth ≤ n
  | [], _, x, hx => by simp at hx
  | y :: xs, h, x, hx => by
    simp only [PyData.depthAll, Nat.max_le] at h
    rcases List.mem_cons.mp hx with rfl | hx
    · exact h.1
    · exact depthAll_ge h.2 x hx
theorem sh_list {n : Nat} {xs : List D} (h : ∀ x ∈ xs, sh n x) : sh (n + 1) (.list xs) := by
  refine ⟨by rw [PyData.canLay0]; exact canAll_iff.mpr fun x hx => (h x hx).1, ?_⟩
  rw [PyData.depth]
  exact Nat.succ_le_succ (depthAll_le fun x hx => (h x hx).2)
theorem sh_tuple {n : Nat} {xs : List D} (h : ∀ x ∈ xs, sh n x) : sh (n + 1) (.tuple xs) := by
  refine ⟨by rw [PyData.canLay0]; exact canAll_iff.mpr fun x hx => (h x hx).1, ?_⟩
  rw [PyData.depth]
  exact Nat.succ_le_succ (depthAll_le fun x hx => (h x hx).2)
theorem sh_of_list {n : Nat} {xs : List D} (h : sh (n + 1) (.list xs)) : ∀ x ∈ xs, sh n x := fun x hx => by
  obtain ⟨h1, h2⟩ := h
  rw [PyData.canLay0] at h1
  rw [PyData.depth] at h2
  exact ⟨canAll_iff.mp h1 x hx, depthAll_ge (Nat.le_of_succ_le_succ h2) x hx⟩
theorem sh_of_tuple {n : Nat} {xs : List D} (h : sh (n + 1) (.tuple xs)) : ∀ x ∈ xs, sh n x := fun x hx => by
  obtain ⟨h1, h2⟩ := h
  rw [PyData.canLay0] at h1
  rw [PyData.depth] at h2
  exact ⟨canAll_iff.mp h1 x hx, depthAll_ge (Nat.le_of_succ_le_succ h2) x hx⟩
theorem sh_int {n : Nat} (i : Int) : sh n (.int i) := ⟨rfl, Nat.zero_le _⟩
theorem sh_bool {n : Nat} (i : Bool) : sh n (.bool i) := ⟨rfl, Nat.zero_le _⟩
theorem sh_none {n : Nat} : sh n .none := ⟨rfl, Nat.zero_le _⟩
theorem sh_str {n : Nat} {x : Str} (h : PyData.canLay0 (.str x) = true) : sh n (.str x) := ⟨h, Nat.zero_le _⟩
theorem sh_ints {n : Nat} (l : List Int) : ∀ x ∈ l.map PyData.int, sh n x := fun x hx => by
  obtain ⟨i, _, rfl⟩ := List.mem_map.mp hx
  exact sh_int i
theorem exact_ints (l : List Int) : exacts (l.map PyData.int) = true := exacts_iff.mpr fun x hx => by
  obtain ⟨i, _, rfl⟩ := List.mem_map.mp hx
  rfl
theorem map_int_inj {a b : List Int} : a.map PyData.int = b.map PyData.int ↔ a = b :=
  ⟨fun h => (List.map_inj_right fun x y e => PyData.int.inj e).mp h, fun h => by rw [h]⟩
/-- == -/
theorem dEq_sh {n m : Nat} {x y : D} (hx : sh n x) (hy : sh m y) (k : n ≤ 64 := by decide) (k' : m ≤ 64 := by decide) : dEq x y = .ok (.bool (PyData.eqv x y)) := by
  unfold dEq
  rw [shaped_sh hx k, shaped_sh hy k']
  rfl
theorem dNe_sh {n m : Nat} {x y : D} (hx : sh n x) (hy : sh m y) (k : n ≤ 64 := by decide) (k' : m ≤ 64 := by decide) : dNe x y = .ok (.bool (!PyData.eqv x y)) := by
  unfold dNe
  rw [shaped_sh hx k, shaped_sh hy k']
  rfl
theorem dEq_ex {n m : Nat} {x y : D} (hx : sh n x) (hy : sh m y) (ex : exact x = true) (ey : exact y = true) {b : Bool} (hb : b = true ↔ x = y) (k : n ≤ 64 := by decide) (k' : m ≤ 64 := by decide) : dEq x y = .ok (.bool b) := by
  rw [dEq_sh hx hy k k']
  have e : PyData.eqv x y = b := by rw [Bool.eq_iff_iff, eqv_exact x y ex ey, hb]
  rw [e]
theorem dNe_ex {n m : Nat} {x y : D} (hx : sh n x) (hy : sh m y) (ex : exact x = true) (ey : exact y = true) {b : Bool} (hb : b = true ↔ x = y) (k : n ≤ 64 := by decide) (k' : m ≤ 64 := by decide) : dNe x y = .ok (.bool (!b)) := by
  rw [dNe_sh hx hy k k']
  have e : PyData.eqv x y = b := by rw [Bool.eq_iff_iff, eqv_exact x y ex ey, hb]
  rw [e]
theorem dEq_int (i j : Int) : dEq (.int i) (.int j) = .ok (.bool (decide (i = j))) := by
  rw [dEq_sh (n := 0) (m := 0) (sh_int i) (sh_int j)]
  simp only [PyData.eqv]
  rfl
theorem dNe_int (i j : Int) : dNe (.int i) (.int j) = .ok (.bool (!decide (i = j))) := by
  rw [dNe_sh (n := 0) (m := 0) (sh_int i) (sh_int j)]
  simp only [PyData.eqv]
  rfl
/-! ### isinstance -/
theorem isi_int (t : D) (h : tyD t ≠ none) : dIsi "int" t = .ok (.bool (match t with | .int _ => true | .bool _ => true | _ => false)) := by
  cases t <;> first | rfl | skip
  rename_i kv
  cases kv
  · rfl
  · exact absurd rfl h
theorem isi_bool (t : D) (h : tyD t ≠ none) : dIsi "bool" t = .ok (.bool (match t with | .bool _ => true | _ => false)) := by
  cases t <;> first | rfl | skip
  rename_i kv
  cases kv
  · rfl
  · exact absurd rfl h
theorem isi_tuple (t : D) (h : tyD t ≠ none) : dIsi "tuple" t = .ok (.bool (match t with | .tuple _ => true | _ => false)) := by
  cases t <;> first | rfl | skip
  rename_i kv
  cases kv
  · rfl
  · exact absurd rfl h
theorem isi_list (t : D) (h : tyD t ≠ none) : dIsi "list" t = .ok (.bool (match t with | .list _ => true | _ => false)) := by
  cases t <;> first | rfl | skip
  rename_i kv
  cases kv
  · rfl
  · exact absurd rfl h
theorem ty_of_sh {n : Nat} {t : D} (h : sh n t) : tyD t ≠ none := by
  cases t <;> first | simp [tyD] | skip
  exact absurd h.1 (by simp [PyData.canLay0])
/-! ### blocks -/
theorem eachR_map {α β : Type} {step : α → R (List β)} {f : α → β} : ∀ {xs : List α}, (∀ x ∈ xs, step x = .ok [f x]) → eachR step xs = .ok (xs.map f)
  | [], _ => rfl
  | x :: xs, h => by
    rw [eachR, h x (List.mem_cons_self ..), R.bind_ok, eachR_map fun y hy => h y (List.mem_cons_of_mem _ hy), R.bind_ok]
    rfl
theorem eachR_filter {α β : Type} {step : α → R (List β)} {p : α → Bool} {f : α → β} : ∀ {xs : List α}, (∀ x ∈ xs, step x = .ok (if p x = true then [f x] else [])) → eachR step xs = .ok ((xs.filter p).map f)
  | [], _ => rfl
  | x :: xs, h => by
    rw [eachR, h x (List.mem_cons_self ..), R.bind_ok, eachR_filter (p := p) (f := f) fun y hy => h y (List.mem_cons_of_mem _ hy), R.bind_ok]
    by_cases hp : p x = true <;> simp [hp]
theorem noE_of {α : Type} {r : R α} {a : α} (h : r = .ok a) : noE r = .ok a := by rw [h]; rfl
theorem eachR_mem {α β : Type} {step : α → R (List β)} : ∀ {xs : List α} {ys : List β}, eachR step xs = .ok ys → ∀ x ∈ xs, ∃ o, step x = .ok o
  | [], _, _, x, hx => by simp at hx
  | y :: xs, ys, h, x, hx => by
    rw [eachR] at h
    cases hs : step y with
    | ok o =>
      rw [hs, R.bind_ok] at h
      cases hr : eachR step xs with
      | ok z =>
        rcases List.mem_cons.mp hx with rfl | hx
        · exact ⟨o, hs⟩
        · exact eachR_mem hr x hx
      | exc n => rw [hr, R.bind_exc] at h; cases h
      | stuck => rw [hr, R.bind_stuck] at h; cases h
    | exc n => rw [hs, R.bind_exc] at h; cases h
    | stuck => rw [hs, R.bind_stuck] at h; cases h
/-! ### places -/
theorem dIx_list {xs : List D} {i : Int} {y : D} (h0 : 0 ≤ i) (h : xs[i.toNat]? = some y) : dIx (.list xs) (.int i) = .ok y := by
  have hl : i.toNat < xs.length := (List.getElem?_eq_some_iff.mp h).1
  simp only [dIx, itemsOf, L2.atI, L2.ixN]
  rw [if_pos h0, if_pos (by omega)]
  simp only [Option.bind_some, h]
theorem dIx_tup {xs : List D} {i : Int} {y : D} (h0 : 0 ≤ i) (h : xs[i.toNat]? = some y) : dIx (.tuple xs) (.int i) = .ok y := by
  have hl : i.toNat < xs.length := (List.getElem?_eq_some_iff.mp h).1
  simp only [dIx, itemsOf, L2.atI, L2.ixN]
  rw [if_pos h0, if_pos (by omega)]
  simp only [Option.bind_some, h]
theorem dIx_scr {xs : List D} {i : Int} {y : D} (h0 : 0 ≤ i) (h : xs[i.toNat]? = some y) : dIx (.dict [(.none, .list xs)]) (.int i) = .ok y := by
  have hl : i.toNat < xs.length := (List.getElem?_eq_some_iff.mp h).1
  simp only [dIx, itemsOf, L2.atI, L2.ixN]
  rw [if_pos h0, if_pos (by omega)]
  simp only [Option.bind_some, h]
theorem dIx_t0 (a : D) (r : List D) : dIx (.tuple (a :: r)) (.int 0) = .ok a := dIx_tup (by decide) rfl
theorem dIx_t1 (a b : D) (r : List D) : dIx (.tuple (a :: b :: r)) (.int 1) = .ok b := dIx_tup (by decide) rfl
theorem dIx_l0 (a : D) (r : List D) : dIx (.list (a :: r)) (.int 0) = .ok a := dIx_list (by decide) rfl
theorem dIx_l1 (a b : D) (r : List D) : dIx (.list (a :: b :: r)) (.int 1) = .ok b := dIx_list (by decide) rfl
/-- one of a display, by a number at large -/
def pick (xs : List D) (c k : Int) : D := xs.getD (c % k).toNat .none
theorem dIx_pick {xs : List D} {c k : Int} (hk : (xs.length : Int) = k) (h0 : 0 < k) : dIx (.list xs) (.int (c % k)) = .ok (pick xs c k) := by
  have h1 := Int.emod_nonneg c (show k ≠ 0 by omega)
  have h2 := Int.emod_lt_of_pos c h0
  have hl : (c % k).toNat < xs.length := by omega
  refine dIx_list h1 ?_
  unfold pick
  rw [List.getD_eq_getElem?_getD, List.getElem?_eq_getElem hl]
  rfl
theorem pick_mem {xs : List D} {c k : Int} (hk : (xs.length : Int) = k) (h0 : 0 < k) : pick xs c k ∈ xs := by
  have h1 := Int.emod_nonneg c (show k ≠ 0 by omega)
  have h2 := Int.emod_lt_of_pos c h0
  have hl : (c % k).toNat < xs.length := by omega
  unfold pick
  rw [List.getD_eq_getElem?_getD, List.getElem?_eq_getElem hl]
  exact List.getElem_mem hl
/-- one of a display -/
theorem dIx_mem {xs : List D} {i : Int} (h0 : 0 ≤ i) (h : i < xs.length) : ∃ y ∈ xs, dIx (.list xs) (.int i) = .ok y := by
  have hl : i.toNat < xs.length := by omega
  exact ⟨xs[i.toNat], List.getElem_mem hl, dIx_list h0 (List.getElem?_eq_getElem hl)⟩
end PL

set_option Elab.async false
set_option linter.all false
set_option maxRecDepth 100000
set_option maxHeartbeats 4000000
/-! the end -/
namespace PL
open PySem PySem.Spec PyProof.Rows L2
theorem only_mok {H : Hp} (h : Only H) : MOk H H := fun a o e => by
  refine ⟨e, ?_⟩
  rcases h a with z | ⟨o', xs, z⟩
  · rw [z] at e; cases e
  · rw [z] at e; cases e; rfl
theorem only_mokT {K : PySem.W.Frag} {H : Hp} (h : Only H) : MOkT K H H := by
  have no : ∀ a C dx fs, H a ≠ some (.ins C dx fs) := fun a C dx fs e => by
    rcases h a with z | ⟨o', xs, z⟩
    · rw [z] at e; cases e
    · rw [z] at e; cases e
  exact ⟨only_mok h, ⟨fun a C dx fs e => absurd e (no a C dx fs), fun a a' C C' dx dx' v1 v2 v3 v1' v2' v3' b e _ => absurd e (no a C dx _)⟩⟩
theorem spD_law {K : PySem.W.Frag} {cA : Nat → Addr} {F : List D → R D} {H : Hp} {a : Addr} {ns : List Int} (hO : Only H) (hS : SqL K H a (ns.map V.int)) (hF : F [.dict [(.none, .list (ns.map PyData.int))]] = .ok (.bool true)) :
    spD K cA 1 F [.ref a] H (fun v _ => v = .bl true) (fun _ _ _ => False) := by
  refine ⟨rfl, H, _, only_mokT hO, .cons (.scr hS (Reps.of_ints ns)) .nil, ?_⟩
  rw [hF]
  intro v H' M' g r
  cases r
  rfl
/-- from the law's promise to what the head leaves; what may be let out may hang on the world -/
theorem walk_ofX {l : PySem.W.OpenLaw} {k : Nat} {q : Program} {loose : List Str} {XP : (Str → Option Value) → Heap → Prop} {YP : World → Heap → Prop} {d : DefRec} {x : Str} (hn : l.most = some 63) (hdf : d.params.defaults = []) (hr : Room k callerA)
    (F : ∀ (w : World) (mg : Str → Option Value) (f : Addr) (h : Heap), YP w h → h.Ns mainGlobals mg → mg d.name = some (.ref f) → ∃ (K : PySem.W.Frag) (fd : FuncData) (cA : Nat → Addr) (G : List D → R D), K.In h ∧ (∀ (s : Shared) (u : Value), BindsTo s fd ⟨[u], []⟩ [(x, u)]) ∧
      (∀ ns : List Int, G [.dict [(.none, .list (ns.map PyData.int))]] = .ok (.bool true)) ∧ ∀ base : Heap, K.In base → base.Ns mainGlobals mg → FnOk l.prog w K mg base (L2N.CX l.prog w) k f fd [x] (spD K cA 1 G)) :
    PySem.W.WalkO q loose XP YP l.row.toRowW d [] (fun f vs => PySem.call f vs) := by
  refine Att.attach_call hn hdf fun w t0 t1 mg mb f ob pm cd doc a us ns Gv Yv ho hd1 hcd hmg hob hin hlen hgs => ?_
  obtain ⟨K, fd, cA, G, kx, hb, hG, hF⟩ := F w mg f _ Yv Gv.T.g hmg
  refine law_call kx Gv.T.g Gv.T.b Gv.T.builtins Gv.T.nolimit hgs hob hin ?_ hr hF hb ?_ ?_
  · exact Nat.le_trans hlen (by decide)
  · exact fun H hO hS => spD_law hO hS (hG ns)
  · rintro H e s' ⟨_, _, _, _, _, _, _, _, _, _, _, _, z⟩
    exact z
end PL

set_option Elab.async false
set_option linter.all false
set_option maxRecDepth 100000
set_option maxHeartbeats 4000000
/-! str(x) in the law's own def: nothing is being shown there, sys.modules stands apart -/
namespace PL
open PySem PySem.Spec PyProof.Rows L2
/-- what the law's body knows of its caller -/
structure StrOk (X : Cx) : Prop where
  gd : X.A.guards = some []
  sys : ∃ o es ep, X.s_0.heap.get? sysModules = some o ∧ o.data = .dict es ep
  no : X.H_0 sysModules = none
  fs : X.fs = []
  ex : X.ex = []
section
variable {B : ObjB} {X : Cx} {c : Ctx B} {pos : Pos} {K : PySem.W.Frag} {I : Ent} {M H M' H' : Hp} {σ σ' : L2.St} {ρ ρ' : Env B}
theorem StrOk.now {pins : List (Addr × Obj)} {s : Shared} (S : StrOk X) (J : Inv X pins σ H s) : ∃ o es ep, s.heap.get? sysModules = some o ∧ o.data = .dict es ep := by
  obtain ⟨o, es, ep, h1, h2⟩ := S.sys
  exact ⟨o, es, ep, J.base.keep _ _ h1 S.no (by rw [S.fs]; simp) (by rw [S.ex]; simp), h2⟩
mutual
/-- data that may be shown: no script within -/
def showD : D → Bool
  | .dict [] => true
  | .dict (_ :: _) => false
  | .list xs => showDs xs
  | .tuple xs => showDs xs
  | .str x => PyData.strOk x && PyData.strOk (PySem.reprText x)
  | .int i => decide (i.natAbs.log2 < 1920)
  | _ => true
def showDs : List D → Bool
  | [] => true
  | x :: xs => showD x && showDs xs
end
mutual
theorem showD_able : ∀ {d : D}, showD d = true → d.showable = true
  | .none, _ => rfl
  | .bool _, _ => rfl
  | .int i, h => h
  | .str _, _ => rfl
  | .list xs, h => by rw [PyData.showable]; exact showDs_able (by simpa [showD] using h)
  | .tuple xs, h => by rw [PyData.showable]; exact showDs_able (by simpa [showD] using h)
  | .dict [], _ => rfl
  | .dict (_ :: _), h => by cases h
theorem showDs_able : ∀ {ds : List D}, showDs ds = true → PyData.showableAll ds = true
  | [], _ => rfl
  | x :: xs, h => by
    have h2 := He.ba (show (showD x && showDs xs) = true from h)
    rw [PyData.showableAll, showD_able h2.1, showDs_able h2.2]
    rfl
end
mutual
theorem Rep.reads {pins : List (Addr × Obj)} {s : Shared} (J : Inv X pins σ H s) (hs : ∃ o es ep, s.heap.get? sysModules = some o ∧ o.data = .dict es ep) (mk : MOk M H) : ∀ {v : V} {d : D} {u : Value}, showD d = true → Rep X.K M v d → RelV v u → ∃ as, Reads s.heap u d as ∧ sysModules ∉ as
  | _, _, _, _, .non, r => by cases r; exact ⟨_, .none, by simp⟩
  | _, _, _, _, .bl b, r => by cases r; exact ⟨_, .bool b, by simp⟩
  | _, _, _, _, .int i, r => by obtain ⟨t, rfl⟩ := r; exact ⟨_, .int i t, by simp⟩
  | _, _, _, _, .str x, r => by obtain ⟨t, rfl⟩ := r; exact ⟨_, .str x t, by simp⟩
  | _, _, _, e, .lst (a := a) h q, r => by
    cases r
    obtain ⟨its, rv, ⟨o, n, ho, hc, _, hd⟩, _⟩ := J.list (SqL.of (mk.same _ _ h))
    obtain ⟨as, h1, h2⟩ := Reps.readsAll J hs mk (by simpa [showD] using e) q rv
    refine ⟨_, .list ho hc hd h1, fun z => ?_⟩
    rcases List.mem_cons.mp z with z | z
    · obtain ⟨o', es, ep, e1, e2⟩ := hs
      rw [z, ho] at e1
      cases e1
      rw [hd] at e2
      cases e2
    · exact h2 z
  | _, _, _, e, .scr _ _, _ => by simp [showD] at e
  | _, _, _, e, .obj _ _ _ _, _ => by simp [showD] at e
  | _, _, _, e, .tup h q, r => by
    cases r
    obtain ⟨its, rv, ⟨o, ho, hc, n, hd⟩, _⟩ := J.tuple (sqT_same mk.same h)
    obtain ⟨as, h1, h2⟩ := Reps.readsAll J hs mk (by simpa [showD] using e) q rv
    exact ⟨_, .tuple ho hc hd h1, h2⟩
  | _, _, _, _, .dic (a := a) h, r => by
    cases r
    obtain ⟨_, hne, vs, kv, o, es, ep, ho, hx, hd, _, hp, _⟩ := J.hok a _ (mk.same _ _ h)
    cases kv
    have e0 : es.toList = [] := by cases hp' : es.toList with
      | nil => rfl
      | cons x r => rw [hp'] at hp; cases hp
    refine ⟨a :: [] ++ [], .dict ho hx.1 hd (by rw [e0]; exact .nil) (by rw [e0]; exact .nil), fun z => ?_⟩
    have z' : sysModules = a := by simpa using z
    rw [← z'] at hne
    exact absurd hne (by decide)
theorem Reps.readsAll {pins : List (Addr × Obj)} {s : Shared} (J : Inv X pins σ H s) (hs : ∃ o es ep, s.heap.get? sysModules = some o ∧ o.data = .dict es ep) (mk : MOk M H) : ∀ {vs : List V} {ds : List D} {us : List Value}, showDs ds = true → Reps X.K M vs ds → Vals vs us → ∃ as, ReadsAll s.heap us ds as ∧ sysModules ∉ as
  | _, _, _, _, .nil, r => by cases r; exact ⟨_, .nil, by simp⟩
  | _, d :: ds, _, e, .cons h t, r => by
    have e' := He.ba (show (showD d && showDs ds) = true from e)
    cases r with
    | cons r1 r2 =>
      obtain ⟨as, q1, n1⟩ := Rep.reads J hs mk e'.1 h r1
      obtain ⟨bs, q2, n2⟩ := Reps.readsAll J hs mk e'.2 t r2
      exact ⟨_, .cons q1 q2, fun z => (List.mem_append.mp z).elim n1 n2⟩
end
/-- str(x) -/
def strOfD : D → Str
  | .str x => x
  | d => d.shown
def dStr : List D → R D
  | [d] => if (showD d && (decide (d.depth ≤ 60) && decide (d.shown.length ≤ 4000000))) = true then .ok (.str (strOfD d)) else .stuck
  | _ => .stuck
def rStrD (K : PySem.W.Frag) : List V → Hp → VK → Prop := fun xs H Q => ∃ M v d, xs = [v] ∧ MOk M H ∧ Rep K M v d ∧ (showD d && (decide (d.depth ≤ 60) && decide (d.shown.length ≤ 4000000))) = true ∧ Q (.str (strOfD d)) H
theorem call_strD {k : Nat} (S : StrOk X) (hr : Room k X.A) : CallR X (.type "str") (rStrD X.K) := by
  intro pins s τ H0 xs us Q J r h
  obtain ⟨M, v, d, rfl, mk, rp, hd, q⟩ := h
  obtain ⟨u, rfl, ru⟩ : ∃ u, us = [u] ∧ RelV v u := by
    cases r with
    | cons r0 r1 => cases r1; exact ⟨_, rfl, r0⟩
  obtain ⟨h1, h2⟩ := He.ba hd
  obtain ⟨h2, h3⟩ := He.ba h2
  have h2 := of_decide_eq_true h2
  have h3 := of_decide_eq_true h3
  have fit : d.shown.length ≤ sizeLine := Nat.le_trans h3 (by decide)
  have byRef : ∀ a : Addr, v = .ref a → strOfD d = d.shown → wpAny (model X.prog X.w) X.A (PySem.call (.type "str") [u]) (EP X pins τ Q) X.xe s := fun a ea es => by
    subst ea
    cases (show u = .ref a from ru)
    obtain ⟨as, rd, ns⟩ := Rep.reads J (S.now J) mk h1 rp rfl
    have hu := hr.un
    refine str_of_reads (h₀ := s.heap) rd (showD_able h1) (fun _ => ns) S.gd (by omega) (fun b o e => e) (fun h' t tk hk => ?_) fit
    exact ⟨.str _, H0, J.kept (t' := tk) hk, ⟨t, by rw [es]⟩, q⟩
  cases rp with
  | non => cases ru; exact PySem.P.str_of_none ⟨.str _, H0, J.tok _, ⟨_, rfl⟩, q⟩
  | bl b => cases ru; exact PySem.P.str_of_bool ⟨.str _, H0, J.tok _, ⟨_, rfl⟩, q⟩
  | int i =>
    obtain ⟨t, rfl⟩ := ru
    exact PySem.P.str_of_int (of_decide_eq_true (show decide (i.natAbs.log2 < 1920) = true from h1)) ⟨.str _, H0, J.tok _, ⟨_, rfl⟩, q⟩
  | str x =>
    obtain ⟨t, rfl⟩ := ru
    exact PySem.P.str_of_str ⟨.str x, H0, J, ⟨t, rfl⟩, q⟩
  | lst hl hq => exact byRef _ rfl rfl
  | scr hl hq => cases h1
  | obj _ _ _ _ => cases h1
  | tup hl hq => exact byRef _ rfl rfl
  | dic hl => exact byRef _ rfl rfl
theorem de_strc {e : Expr} {f : Env B → R (List D)} {p : Pos} {k : Nat} (G : Good X c k) (S : StrOk X) (hm : X.mg "str" = none) (ha : DA X c [e] f) (hg : Gl X "str" := by rfl) (he : starEach [e] X.env = (false, eval e X.env) :: starEach [] X.env := by rfl) (hpl : (backTo pos (starEach [] X.env)).any (·.1) = false := by rfl) :
    DE X c (.Call (.Name "str" p) [e] [] pos) (eA dStr f) := by
  refine ⟨PE.imp (pe_callTy (call_strD S G.room) hg hm boot_strT ha.pa (he := he) (hpl := hpl)) fun σ H Q ⟨I, M, ρ, e, q⟩ => ?_⟩
  refine ⟨I, M, ρ, e, q.bind.mono fun x hx vs H1 M1 k1 e1 r1 => ?_⟩
  obtain ⟨d, hd, hp⟩ := hx.noE
  unfold dStr at hd
  split at hd
  · split at hd
    · rename_i hc
      cases hd
      cases r1 with
      | cons r0 r2 =>
        cases r2
        exact ⟨M1, _, _, rfl, e1.mok, G.K ▸ r0, hc, hp _ H1 M1 k1 e1 (.str _)⟩
    · cases hd
  · cases hd
end

/-! ### the end, where the law's def says str(x) -/
theorem ns_hid {h : Heap} {H : Hp} {b : Addr} {m : Str → Option Value} (hn : ∀ b o es ep, h.get? b = some o → o.data = .dict es ep → H b = none) (N : h.Ns b m) : (hidT h H).Ns b m := by
  obtain ⟨o, es, ep, e, d, r⟩ := N
  exact ⟨o, es, ep, hidT_get e (hn b o es ep e d), d, r⟩
theorem law_runs {P : Program} {w : World} {K : PySem.W.Frag} {mg mb : Str → Option Value} {cA : Nat → Addr} {k : Nat} {f a : Addr} {fd : FuncData} {y x qual : Str} {params : Arguments} {body : List Stmt} {scope : Scope} {kws : List (Str × V)} {N : List Str} {g : GS noObj} {t : Shared} {us : List Value} {ns : List Int}
    (kx : K.In t.heap) (n1 : t.heap.Ns mainGlobals mg) (n2 : t.heap.Ns builtinsNs mb) (n3 : ∀ x : Str, x ≠ "__name__" → mb x = bootBuiltins x) (n4 : t.heap.NoLimit) (n5 : ∃ mm, t.heap.Ns sysModules mm) (ng : t.gens = #[])
    (hob : t.heap.get? a = some { cls := .type "list", data := .seq us.toArray }) (hin : IntsAre us ns) (hl : ns.length ≤ sizeLine) (hr : Room (k + 1) callerA)
    (FD : FunD K y qual params body scope [] kws f fd) (S : FnScope N [x] scope) (hb : ∀ (s : Shared) (u : Value), BindsTo s fd ⟨[u], []⟩ [(x, u)])
    (hbody : ∀ base : Heap, K.In base → base.Ns mainGlobals mg → ∀ (cdv : Value) (s : Shared) (H : Hp) (E : XK), StrOk (bodyC P w K mg base N qual scope f cdv callerA [] s H E) → GoodS (B := noObj) (bodyC P w K mg base N qual scope f cdv callerA [] s H E) ⟨K, cA, E⟩ k →
      DSs (bodyC P w K mg base N qual scope f cdv callerA [] s H E) ⟨K, cA, E⟩ body g)
    (hF : runF N.length g [.dict [(.none, .list (ns.map PyData.int))]] = .ok (.bool true)) :
    codeAny (model P w) callerA (.call (.ref f) ⟨[.ref a], []⟩) (fun r s' => r = .ok (.ret (.bool true)) ∧ OldK t.heap s'.heap ∧ s'.os = t.os ∧ AllBare s'.gens) t := by
  -- from a heap in which at most the script is tracked
  have core : ∀ H : Hp, Only H → SqL K H a (ns.map V.int) → HOk P w H t.heap → (∀ b, H b ≠ none → b = a) → (H a ≠ none → K.lookup a = none) → codeAny (model P w) callerA (.call (.ref f) ⟨[.ref a], []⟩) (fun r s' => r = .ok (.ret (.bool true)) ∧ OldK t.heap s'.heap ∧ s'.os = t.os ∧ AllBare s'.gens) t := by
    intro H hO hS hok only hK
    have dno : ∀ b o es ep, t.heap.get? b = some o → o.data = .dict es ep → H b = none := fun b o es ep e d => by
      cases q : H b with
      | none => rfl
      | some z =>
        cases only b (by rw [q]; exact Option.some_ne_none _)
        rw [hob] at e
        cases e
        cases d
    have kb : K.In (hidT t.heap H) := fun b o e => hidT_get (kx b o e) (by
      cases q : H b with
      | none => rfl
      | some z =>
        cases only b (by rw [q]; exact Option.some_ne_none _)
        rw [hK (by rw [q]; exact Option.some_ne_none _)] at e
        cases e)
    have lim : (hidT t.heap H).NoLimit := by
      obtain ⟨mc, l1, l2⟩ := n4
      exact ⟨mc, ns_hid dno l1, l2⟩
    have md : Mod K mg (hidT t.heap H) := ⟨kb, ns_hid dno n1, ⟨mb, ns_hid dno n2, n3⟩, lim⟩
    have e0 : Env0 P w K mg (hidT t.heap H) callerA [] t H := ⟨rfl, md, fun b o e => of_hidT e, Nat.le_of_eq (hidT_size _ _), trivial, (fun b z => absurd (show b ∈ ([] : List Addr) from z) (List.not_mem_nil)), hok, .of_eq ng⟩
    obtain ⟨oc, od, dV, kV, doc, pm, an, cdv, ct, osl, rfl, lk, hcd, _, _⟩ := FD.ex
    have hkd : ∀ q ∈ [(x, Value.ref a)], scope.names.lookup q.1 = some .local ∨ (scope.names.lookup q.1 = some .cell ∧ ((cellsFrom (t.heap.objs.size + 1) scope.names []).lookup q.1).isSome = true) := fun q hq => by
      rw [List.mem_singleton] at hq
      subst hq
      exact (S.par x (List.mem_singleton.mpr rfl)).imp id fun h => ⟨h, PySem.W.cellsFrom_some _ _ _ (.inl h)⟩
    refine codeAny_call_function (by decide) (kx _ _ lk) rfl S.co S.gen rfl (PySem.W.codeRec_of kx hcd) (hb t (.ref a) _ _ _ _ ?_)
    refine wpAny_newFunctionEnv_cells S.kind hkd fun env he s1 xc => ?_
    subst he
    refine ⟨n4.keeps xc.toInCall.keep, codeAny_func ?_⟩
    have J : Inv (bodyC P w K mg (hidT t.heap H) N qual scope f cdv callerA [] t H (fun _ _ _ => False)) [] (L2.start N [.ref a]) H s1 := inv_start (ps := [x]) (us := [.ref a]) S hr.hd e0 rfl (.cons rfl .nil) xc
    have so : StrOk (bodyC P w K mg (hidT t.heap H) N qual scope f cdv callerA [] t H (fun _ _ _ => False)) := by
      obtain ⟨mm, o, es, ep, m1, m2, _⟩ := n5
      exact ⟨rfl, ⟨o, es, ep, m1, m2⟩, dno _ _ _ _ m1 m2, rfl, rfl⟩
    have q0 : tDS ⟨K, cA, fun _ _ _ => False⟩ g { nx := fun _ _ => False, rt := fun v _ => v = .bl true } (L2.start N [.ref a]) H := by
      refine ⟨⟨H, H, false⟩, H, startE N.length [.dict [(.none, .list (ns.map PyData.int))]], startE_env (only_mokT hO) (.cons (.scr hS (Reps.of_ints ns)) .nil), ?_⟩
      unfold runF at hF
      cases hg : g (startE N.length [.dict [(.none, .list (ns.map PyData.int))]]) with
      | ok res =>
        rw [hg] at hF
        obtain ⟨fl, ρ'⟩ := res
        cases fl with
        | rt d =>
          cases hF
          intro v σ' H' M' sm e' r
          cases r
          rfl
        | nx => cases hF
        | bk => cases hF
        | ct => cases hF
        | rtL xs => cases hF
        | rtP xs d => cases hF
      | exc n => rw [hg] at hF; cases hF
      | stuck => rw [hg] at hF; cases hF
    refine wpAny_mono ((hbody _ kb (ns_hid dno n1) cdv t H _ so (good_body S.nd (hr.deeper _))).pss.run [] s1 _ H _ J q0) (fun fl s' hs => ?_) fun e s' hs => ?_
    · cases fl with
      | ret u =>
        obtain ⟨v, σ', H', J', rv, q⟩ := hs
        cases q
        cases (show u = .bool true from rv)
        refine ⟨rfl, OldK.of_keep fun b o e => ?_, J'.os, J'.bare⟩
        cases z : H b with
        | none => exact J'.base.keep b o e z (fun z => by cases z) (fun z => by cases z)
        | some z1 =>
          rcases hO b with z2 | ⟨ob, xs, z2⟩
          · rw [z] at z2; cases z2
          · have z3 := (hok b _ z2).1
            have z4 := (J'.hok b _ (J'.base.frzs b ob _ z2)).1
            rw [e] at z3
            cases z3
            exact z4
      | next =>
        obtain ⟨_, _, _, q⟩ := hs
        exact q.elim
      | brk =>
        obtain ⟨_, _, _, q⟩ := hs
        exact q.elim
      | cont =>
        obtain ⟨_, _, _, q⟩ := hs
        exact q.elim
    · refine wpAny_mono hs (fun _ s2 h => False.elim ?_) fun _ _ h => ?_
      · obtain ⟨_, _, _, _, _, _, _, _, _, _, _, _, z⟩ := h
        exact z
      · obtain ⟨_, _, _, _, _, _, _, _, _, _, _, _, z⟩ := h
        exact z.elim
  have rv := vals_ints hin
  cases hk : K.lookup a with
  | some o =>
    have e := kx a o hk
    rw [hob] at e
    cases e
    refine core (fun _ => none) (fun _ => .inl rfl) (.inr ⟨_, us.toArray, _, hk, rfl, rfl, rfl, ?_, by simpa using rv⟩) (fun b u z => by cases z) (fun b z => absurd rfl z) fun z => absurd rfl z
    rw [List.size_toArray, hin.length]
    exact hl
  | none =>
    refine core (fun b => if b = a then some (.frz { cls := .type "list", data := .seq us.toArray } (.lst (ns.map V.int))) else none) (fun b => ?_) (.inl (.inr ⟨_, if_pos rfl⟩)) (fun b u z => ?_) (fun b z => ?_) fun _ => hk
    · by_cases hb : b = a
      · exact .inr ⟨_, _, if_pos hb⟩
      · exact .inl (if_neg hb)
    · by_cases hb : b = a
      · simp only [if_pos hb] at z
        cases z
        subst hb
        exact ⟨hob, by rw [List.length_map]; exact hl, us, _, rv, hob⟩
      · simp only [if_neg hb] at z
        cases z
    · by_cases hb : b = a
      · exact hb
      · exact absurd (if_neg hb) z
theorem walk_ofG {l : PySem.W.OpenLaw} {k : Nat} {q : Program} {loose : List Str} {XP : (Str → Option Value) → Heap → Prop} {YP : World → Heap → Prop} {d : DefRec} {x : Str} (hn : l.most = some 63) (hdf : d.params.defaults = []) (hr : Room (k + 1) callerA) (hi : importsNone q = true)
    (F : ∀ (w : World) (mg : Str → Option Value) (f : Addr) (h : Heap), YP w h → h.Ns mainGlobals mg → mg d.name = some (.ref f) →
      ∃ (K : PySem.W.Frag) (fd : FuncData) (cA : Nat → Addr) (y qual : Str) (params : Arguments) (body : List Stmt) (scope : Scope) (kws : List (Str × V)) (N : List Str) (g : GS noObj), K.In h ∧ FunD K y qual params body scope [] kws f fd ∧ FnScope N [x] scope ∧ (∀ (s : Shared) (u : Value), BindsTo s fd ⟨[u], []⟩ [(x, u)]) ∧
        (∀ ns : List Int, runF N.length g [.dict [(.none, .list (ns.map PyData.int))]] = .ok (.bool true)) ∧
        ∀ base : Heap, K.In base → base.Ns mainGlobals mg → ∀ (cdv : Value) (s : Shared) (H : Hp) (E : XK), StrOk (bodyC l.prog w K mg base N qual scope f cdv callerA [] s H E) → GoodS (B := noObj) (bodyC l.prog w K mg base N qual scope f cdv callerA [] s H E) ⟨K, cA, E⟩ k →
          DSs (bodyC l.prog w K mg base N qual scope f cdv callerA [] s H E) ⟨K, cA, E⟩ body g) :
    PySem.W.WalkO q loose XP YP l.row.toRowW d [] (fun f vs => PySem.call f vs) := by
  refine Att.attach_call hn hdf fun w t0 t1 mg mb f ob pm cd doc a us ns Gv Yv ho hd1 hcd hmg hob hin hlen hgs => ?_
  obtain ⟨K, fd, cA, y, qual, params, body, scope, kws, N, g, kx, FD, S, hb, hF, hB⟩ := F w mg f _ Yv Gv.T.g hmg
  obtain ⟨mm, hm, _⟩ := (Gv.T.seer hi).mods
  exact law_runs kx Gv.T.g Gv.T.b Gv.T.builtins Gv.T.nolimit ⟨mm, hm⟩ hgs hob hin (Nat.le_trans hlen (by decide)) hr FD S hb hB (hF ns)
/-! ### what is not come to -/
section
variable {B : ObjB} {X : Cx} {c : Ctx B}
def gDead : GS B := fun _ => .stuck
theorem dss_dead {sts : List Stmt} : DSs X c sts (gDead : GS B) := ⟨⟨fun _ _ _ _ _ _ ⟨_, _, _, _, q⟩ => q.elim⟩⟩
def eDead : Env B → R D := fun _ => .stuck
theorem de_dead {e : Expr} : DE X c e (eDead : Env B → R D) := ⟨⟨fun _ _ _ _ _ _ ⟨_, _, _, _, q⟩ => q.elim⟩⟩
end
end PL

set_option Elab.async false
set_option linter.all false
set_option maxRecDepth 100000
set_option maxHeartbeats 4000000
/-! own lists, read -/
namespace PL
open PySem PySem.Spec PyProof.Rows L2
section
variable {B : ObjB} {X : Cx} {c : Ctx B} {pos : Pos} {K : PySem.W.Frag} {I : Ent} {M H M' H' : Hp} {σ σ' : L2.St} {ρ ρ' : Env B}
/-- tuple(x), x an own list -/
def eTupOwn (i : Nat) : Env B → R D := fun ρ => match ρ[i]? with
  | some (.own ds) => .ok (.tuple ds)
  | _ => .stuck
theorem de_tupOwn {i : Nat} {x : Str} {p q : Pos} (K : c.K = X.K) (hm : X.mg "tuple" = none) (hN : X.N[i]? = some x) (hv : Vis X.env.scope x) (hg : Gl X "tuple" := by rfl) (hd : (x == ("__debug__" : Str)) = false := by decide) (hcd : (x == ("__classdict__" : Str)) = false := by decide)
    (he : starEach [.Name x q] X.env = (false, eval (.Name x q) X.env) :: starEach [] X.env := by rfl) (hpl : (backTo pos (starEach [] X.env)).any (·.1) = false := by rfl) :
    DE X c (.Call (.Name "tuple" p) [.Name x q] [] pos) (eTupOwn (B := B) i) := by
  refine ⟨PE.imp (pe_callTy call_tuple_of hg hm boot_tupleT (pa_cons (pe_var hN hv hd hcd) pa_nil he) (he := he) (hpl := hpl)) fun σ H Q ⟨I, M, ρ, e, q⟩ => ?_⟩
  unfold eTupOwn at q
  split at q
  · rename_i ds hi
    obtain ⟨l, vs, a, hl, ml, il, r⟩ := e.slots i _ hi
    refine ⟨_, a, l, vs, rfl, .inl ⟨.inl (.inl hl), fun p hp => ?_⟩⟩
    have g := Grow.alloc e.mok hp (o := .tup vs) rfl
    exact q (.ref p) _ _ (.of g) (e.grow g) (.newT (e.mok.free hp) r)
  · exact q.elim
/-- x[k], x an own list -/
def eIxOwn (i : Nat) (f : Env B → R D) : Env B → R D := fun ρ => match ρ[i]? with
  | some (.own ds) => (f ρ).bind fun y => noE (dIx (.list ds) y)
  | _ => .stuck
end
end PL

set_option Elab.async false
set_option linter.all false
set_option maxRecDepth 100000
set_option maxHeartbeats 4000000
/-! shown texts: what they hold, how long they are -/
namespace PL
open PySem
theorem okS_append {x y : Str} (hx : PyData.strOk x = true) (hy : PyData.strOk y = true) : PyData.strOk (x ++ y) = true := by
  unfold PyData.strOk at *
  show (Array.all (x.cps ++ y.cps) _) = true
  rw [Array.all_append, hx, hy]
  rfl
theorem okS_ofString (s : String) : PyData.strOk (Str.ofString s) = true := by
  rw [Str.ofString_eq_toList]
  unfold PyData.strOk
  simp only [List.all_toArray, List.all_map, List.all_eq_true, Function.comp_def, decide_eq_true_eq]
  intro c _
  have := c.valid
  simp only [UInt32.isValidChar, Nat.isValidChar] at this
  show c.val.toNat < _
  omega
theorem okS_join {sep : Str} (hs : PyData.strOk sep = true) : ∀ {ts : List Str}, (∀ t ∈ ts, PyData.strOk t = true) → PyData.strOk (Str.join sep ts) = true
  | [], _ => show PyData.strOk Str.empty = true by decide +kernel
  | [x], h => h x (List.mem_cons_self ..)
  | x :: y :: r, h => by
    show PyData.strOk (x ++ sep ++ Str.join sep (y :: r)) = true
    exact okS_append (okS_append (h x (List.mem_cons_self ..)) hs) (okS_join hs fun t ht => h t (List.mem_cons_of_mem _ ht))
theorem okS_from : ∀ {ts : List Str} {k : Nat} {acc : Str}, PyData.strOk acc = true → (∀ t ∈ ts, PyData.strOk t = true) → PyData.strOk (textFrom k acc ts) = true
  | [], _, _, ha, _ => ha
  | t :: ts, k, acc, ha, h => by
    rw [textFrom]
    exact okS_from (okS_append (okS_append ha (okS_ofString _)) (h t (List.mem_cons_self ..))) fun z hz => h z (List.mem_cons_of_mem _ hz)
mutual
theorem okS_shown : ∀ {d : D}, showD d = true → PyData.strOk d.shown = true
  | .none, _ => okS_ofString _
  | .bool b, _ => by cases b <;> exact okS_ofString _
  | .int i, _ => okS_ofString _
  | .str x, h => (Bool.and_eq_true_iff.mp (show (PyData.strOk x && PyData.strOk (reprText x)) = true from h)).2
  | .list xs, h => by
    rw [PyData.shown]
    exact okS_append (okS_from (okS_ofString _) (okS_shownAll (by simpa [showD] using h))) (okS_ofString _)
  | .tuple xs, h => by
    rw [PyData.shown]
    exact okS_append (okS_append (okS_ofString _) (okS_join (okS_ofString _) (okS_shownAll (by simpa [showD] using h)))) (okS_ofString _)
  | .dict [], _ => by decide +kernel
  | .dict (_ :: _), h => by cases h
theorem okS_shownAll : ∀ {ds : List D}, showDs ds = true → ∀ t ∈ PyData.shownAll ds, PyData.strOk t = true
  | [], _, t, ht => by simp [PyData.shownAll] at ht
  | x :: xs, h, t, ht => by
    have h2 := Bool.and_eq_true_iff.mp (show (showD x && showDs xs) = true from h)
    rw [PyData.shownAll] at ht
    rcases List.mem_cons.mp ht with rfl | ht
    · exact okS_shown h2.1
    · exact okS_shownAll h2.2 t ht
end
theorem okS_strOfD {d : D} (h : showD d = true) : PyData.strOk (strOfD d) = true := by
  unfold strOfD
  split
  · exact (Bool.and_eq_true_iff.mp (show (PyData.strOk _ && PyData.strOk (reprText _)) = true from h)).1
  · exact okS_shown h
theorem showDs_iff : ∀ {xs : List D}, showDs xs = true ↔ ∀ x ∈ xs, showD x = true
  | [] => by simp [showDs]
  | x :: xs => by simp [showDs, showDs_iff (xs := xs)]
/-- little data -/
def little (n : Nat) (d : D) : Prop := showD d = true ∧ d.leavesShort 40 = true ∧ d.bulk ≤ n
theorem shortAll_iff : ∀ {xs : List D}, PyData.leavesShortAll 40 xs = true ↔ ∀ x ∈ xs, x.leavesShort 40 = true
  | [] => by simp [PyData.leavesShortAll]
  | x :: xs => by simp [PyData.leavesShortAll, shortAll_iff (xs := xs)]
theorem bulkAll_le {n : Nat} : ∀ {xs : List D}, (∀ x ∈ xs, x.bulk ≤ n) → PyData.bulkAll xs ≤ (n + 1) * xs.length
  | [], _ => by simp [PyData.bulkAll]
  | x :: xs, h => by
    have h1 := h x (List.mem_cons_self ..)
    have h2 := bulkAll_le (n := n) (xs := xs) fun y hy => h y (List.mem_cons_of_mem _ hy)
    rw [PyData.bulkAll, List.length_cons, Nat.mul_add, Nat.mul_one]
    omega
theorem little_list {n m : Nat} {xs : List D} (h : ∀ x ∈ xs, little n x) (hl : (n + 1) * xs.length ≤ m) : little m (.list xs) := by
  refine ⟨?_, ?_, ?_⟩
  · rw [showD]; exact showDs_iff.mpr fun x hx => (h x hx).1
  · rw [PyData.leavesShort]; exact shortAll_iff.mpr fun x hx => (h x hx).2.1
  · rw [PyData.bulk]; exact Nat.le_trans (bulkAll_le fun x hx => (h x hx).2.2) hl
theorem little_tuple {n m : Nat} {xs : List D} (h : ∀ x ∈ xs, little n x) (hl : (n + 1) * xs.length ≤ m) : little m (.tuple xs) := by
  refine ⟨?_, ?_, ?_⟩
  · rw [showD]; exact showDs_iff.mpr fun x hx => (h x hx).1
  · rw [PyData.leavesShort]; exact shortAll_iff.mpr fun x hx => (h x hx).2.1
  · rw [PyData.bulk]; exact Nat.le_trans (bulkAll_le fun x hx => (h x hx).2.2) hl
theorem little_none {n : Nat} : little n .none := ⟨rfl, rfl, Nat.zero_le _⟩
theorem little_bool {n : Nat} (b : Bool) : little n (.bool b) := ⟨rfl, rfl, Nat.zero_le _⟩
theorem log2_lt {m k : Nat} (h : m < 2 ^ k) (hk : 0 < k) : m.log2 < k := by
  by_cases h0 : m = 0
  · subst h0; simpa using hk
  · exact (Nat.log2_lt h0).mpr h
theorem little_int {n : Nat} {i : Int} (h : i.natAbs < 10 ^ 12) : little n (.int i) := by
  refine ⟨decide_eq_true (log2_lt (Nat.lt_trans h (Nat.lt_of_lt_of_le (show 10 ^ 12 < 2 ^ 64 by decide) (Nat.pow_le_pow_right (by decide) (by decide)))) (by decide)), ?_, Nat.zero_le _⟩
  rw [PyData.leavesShort]
  exact decide_eq_true (Nat.le_trans (PyData.shown_int_le h) (by decide))
theorem dStr_little' {d : D} {n : Nat} (h : little n d) (hn : n ≤ 20000) (hd : d.depth ≤ 60) : dStr [d] = .ok (.str (strOfD d)) := by
  have h1 := PyData.shown_le_bulk 40 (by decide) d h.2.1
  have h2 := h.2.2
  simp only [dStr]
  rw [h.1, decide_eq_true hd, decide_eq_true (show d.shown.length ≤ 4000000 by omega)]
  rfl
theorem dStr_little {d : D} (h : little 1000 d) (hd : d.depth ≤ 60) : dStr [d] = .ok (.str (strOfD d)) := dStr_little' h (by decide) hd
theorem noObjs_true (ρ : Env noObj) : noObjs ρ = true := List.all_eq_true.mpr fun s _ => by
  cases s with
  | obj z => cases z
  | _ => rfl
theorem isi_str (t : D) (h : tyD t ≠ none) : dIsi "str" t = .ok (.bool (match t with | .str _ => true | _ => false)) := by
  cases t <;> first | rfl | skip
  rename_i kv
  cases kv
  · rfl
  · exact absurd rfl h
theorem dEq_str {x y : Str} (hx : PyData.strOk x = true) (hy : PyData.strOk y = true) : dEq (.str x) (.str y) = .ok (.bool (decide (x = y))) := by
  rw [dEq_sh (n := 0) (m := 0) (sh_str (by rw [PyData.canLay0]; exact hx)) (sh_str (by rw [PyData.canLay0]; exact hy))]
  simp only [PyData.eqv]
  rfl
theorem dNe_str {x y : Str} (hx : PyData.strOk x = true) (hy : PyData.strOk y = true) : dNe (.str x) (.str y) = .ok (.bool (!decide (x = y))) := by
  rw [dNe_sh (n := 0) (m := 0) (sh_str (by rw [PyData.canLay0]; exact hx)) (sh_str (by rw [PyData.canLay0]; exact hy))]
  simp only [PyData.eqv]
  rfl
end PL

set_option Elab.async false
set_option linter.all false
set_option maxRecDepth 100000
set_option maxHeartbeats 4000000
/-! defs that call themselves -/
namespace PL
open PySem PySem.Spec PyProof.Rows L2
theorem df_stuck {P : Program} {w : World} {K : PySem.W.Frag} {mg : Str → Option Value} {base : Heap} {cA : Nat → Addr} {x qual : Str} {params : Arguments} {body : List Stmt} {scope : Scope} {kws : List (Str × V)} {f : Addr} {fd : FuncData} {ps : List Str} {k : Nat} (FD : FunD K x qual params body scope [] kws f fd) (hb : Binds K fd ps []) (gx : mg x = some (.ref f)) :
    Df P w K mg base cA x k ps.length (fun _ => .stuck) :=
  ⟨f, fd, ps, rfl, ⟨fun vs H Q E h => h.1, fun A outer s H args us vs Q E hr e0 hbn r h => h.2.elim fun _ h => h.elim fun _ h => h.2.2.elim⟩, gx, FD.kp, hb⟩
/-- a name of the top that stands for a tuple of ints -/
def tupFact (x : Str) (ns : List Int) (K : PySem.W.Frag) : Bool := match K.lookup (He.ga K x) with
  | some o => decide (o.cls = .type "tuple") && (match o.data with
    | .seq its _ => decide (its.size ≤ sizeLine) && He.relAll (ns.map V.int) its.toList
    | _ => false)
  | none => false
theorem tupFact_ok {x : Str} {ns : List Int} {K : PySem.W.Frag} (h : tupFact x ns K = true) (M : Hp) : SqT K M (He.ga K x) (ns.map V.int) := by
  unfold tupFact at h
  split at h
  · rename_i o ho
    obtain ⟨h1, h2⟩ := He.ba h
    split at h2
    · rename_i its n hd
      obtain ⟨h3, h4⟩ := He.ba h2
      exact .inr ⟨o, its, n, ho, of_decide_eq_true h1, hd, of_decide_eq_true h3, He.relAll_ok h4⟩
    · cases h2
  · cases h
theorem de_gtup {B : ObjB} {X : Cx} {c : Ctx B} {pos : Pos} {x : Str} {ns : List Int} (h : tupFact x ns c.K = true) (hm : X.mg x = some (.ref (He.ga c.K x))) (hg : Gl X x := by rfl) (hd : (x == ("__debug__" : Str)) = false := by decide) : DE X c (.Name x pos) (eC (.tuple (ns.map PyData.int))) :=
  de_glob (v := .ref (He.ga c.K x)) hg hm rfl (fun M => .tup (tupFact_ok h M) (Reps.of_ints ns)) hd
/-! ### len(set(x)), x a list of ints -/
section
variable {B : ObjB} {X : Cx} {c : Ctx B} {pos : Pos}
theorem fm_nodup (val : Nat → Int) : ∀ i, (PyProof.Rows.firstMet val i).Nodup
  | 0 => by rw [PyProof.Rows.firstMet_zero]; exact List.nodup_nil
  | i + 1 => by
    rw [PyProof.Rows.firstMet_succ]
    unfold PyProof.Rows.step_dedup
    split
    · exact fm_nodup val i
    · rename_i h
      refine List.nodup_append.mpr ⟨fm_nodup val i, by simp, fun a ha b hb e => h ?_⟩
      rw [List.mem_singleton] at hb
      subst hb
      exact List.any_eq_true.mpr ⟨a, ha, by simp [e]⟩
theorem fm_mem (ns : List Int) (k : Int) : k ∈ PyProof.Rows.firstMet (fun i => ns.getD i 0) ns.length ↔ k ∈ ns := by
  have h := PyProof.Rows.firstMet_any (fun i => ns.getD i 0) ns.length k
  have e : (List.range ns.length).map (fun i => ns.getD i 0) = ns := by
    apply List.ext_getElem
    · simp
    · intro i h1 h2
      simp [List.getD, h2]
  rw [e] at h
  constructor
  · intro hk
    have : ns.any (· == k) = true := by rw [← h]; exact List.any_eq_true.mpr ⟨k, hk, by simp⟩
    obtain ⟨x, hx, e⟩ := List.any_eq_true.mp this
    rw [← eq_of_beq e]; exact hx
  · intro hk
    have : (PyProof.Rows.firstMet (fun i => ns.getD i 0) ns.length).any (· == k) = true := by rw [h]; exact List.any_eq_true.mpr ⟨k, hk, by simp⟩
    obtain ⟨x, hx, e⟩ := List.any_eq_true.mp this
    rw [← eq_of_beq e]; exact hx
theorem fm_len (ns : List Int) : (PyProof.Rows.firstMet (fun i => ns.getD i 0) ns.length).length = (distI ns).length :=
  nodup_len (fm_nodup _ _) (up_nodup (distI_up ns)) fun z => by rw [fm_mem, distI_mem]
theorem insU_le (x : Int) : ∀ l : List Int, (insU x l).length ≤ l.length + 1
  | [] => by simp [insU]
  | y :: r => by
    have := insU_le x r
    unfold insU
    split
    · simp
    · split <;> simp <;> omega
theorem distI_le' : ∀ l : List Int, (distI l).length ≤ l.length
  | [] => Nat.le_refl _
  | x :: r => by
    have h1 := distI_le' r
    have h2 := insU_le x (distI r)
    rw [show distI (x :: r) = insU x (distI r) from rfl, List.length_cons]
    omega
def setIntsL (x : D) : R (List Int) := match x with
  | .list ds => match intsOf ds with
    | some ns => if ns.length ≤ 60 then .ok ns else .stuck
    | none => .stuck
  | _ => .stuck
def eLenSetL (f : Env B → R D) : Env B → R D := fun ρ => (f ρ).bind fun x => (setIntsL x).bind fun ns => .ok (.int (distI ns).length)
theorem setIntsL_rd {I : Ent} {x : D} {P : List Int → Prop} (h : RD c I (setIntsL x) P) : ∃ ns, x = .list (ns.map .int) ∧ ns.length ≤ 60 ∧ P ns := by
  unfold setIntsL at h
  split at h
  · split at h
    · rename_i ns hn
      split at h
      · exact ⟨ns, by rw [intsOf_eq hn], by assumption, h⟩
      · exact h.elim
    · exact h.elim
  · exact h.elim
/-- set(x): the set stands -/
def rSetL (K : PySem.W.Frag) : V → Hp → VK → Prop := fun x H Q => ∃ (l : Addr) (ns : List Int), x = .ref l ∧ SqL K H l (ns.map V.int) ∧ ns.length ≤ 60 ∧ ∀ p S, H p = none → Q (.ref p) (upd H p (.set S (distI ns).length))
theorem pe_setL {a : Expr} {ta : TE} {p q : Pos} (hg2 : Gl X "set") (hm2 : X.mg "set" = none) (hc : X.calm = true) (ha : PE X a ta) (na : starEach [a] X.env = (false, eval a X.env) :: starEach [] X.env := by rfl) : PE X (.Call (.Name "set" p) [a] [] q) (tUn (rSetL X.K) ta) := by
  refine ⟨fun pins s σ H Q I h => ?_⟩
  refine Call_ (ld_blt I hg2 hm2 PyProof.Rows.boot_set ?_)
  refine PyProof.Rows.callWith_type1 (PyProof.Rows.args_cons (thn (ha.run pins s σ H _ I h) fun v s1 ⟨x, H1, I1, r1, q1⟩ => PyProof.Rows.args_nil ?_) na) na rfl
  obtain ⟨l, ns, rfl, hq, hl, q1⟩ := q1
  cases r1
  obtain ⟨its, rv, pt, hz⟩ := I1.list hq
  have hi : IntsAre its.toArray.toList ns := by simpa using Vals.ints rv
  have hlen : its.toArray.size = ns.length := by have := hi.length; simpa using this
  refine PySem.call_set_list (I1.ok.hd hc) pt.isList hi (by rw [hlen]; unfold scanBound; omega) fun h' tk R1 k => ?_
  have hn : H1 s1.heap.objs.size = none := I1.hok.fresh (Nat.le_refl _)
  rw [hlen, fm_len] at R1
  exact ⟨.ref s1.heap.objs.size, _, I1.laid (t' := tk) (o := .set (fun z => (PyProof.Rows.firstMet (fun i => ns.getD i 0) ns.length).any (· == z)) (distI ns).length) (fun b u e => k b u (Heap.lt_size e) e) (Nat.le_refl _) R1, rfl, q1 _ _ hn⟩
theorem de_lenSetL {a : Expr} {f : Env B → R D} {p p2 q : Pos} {k : Nat} (G : Good X c k) (hm : X.mg "len" = none) (hm2 : X.mg "set" = none) (ha : DE X c a f) (hg : Gl X "len" := by rfl) (hg2 : Gl X "set" := by rfl)
    (na : starEach [a] X.env = (false, eval a X.env) :: starEach [] X.env := by rfl) (he : starEach [.Call (.Name "set" p2) [a] [] q] X.env = (false, eval (.Call (.Name "set" p2) [a] [] q) X.env) :: starEach [] X.env := by rfl) :
    DE X c (.Call (.Name "len" p) [.Call (.Name "set" p2) [a] [] q] [] pos) (eLenSetL f) := by
  have hcall : CallR X (.builtin "len") (fun xs H Q => ∃ a S n, xs = [.ref a] ∧ H a = some (.set S n) ∧ n < 100 ∧ Q (.int n) H) := by
    intro pins s σ H xs us Q I r h
    obtain ⟨a, S, n, rfl, ha, hn, q⟩ := h
    rw [Vals.ref1 r]
    obtain ⟨o, es, ep, t, ho, hex, hd, _, _, _, hf, hn'⟩ := I.hok a _ ha
    exact call_len_set ho hex hd hf (by omega) ⟨.int n, H, I.tok _, ⟨_, by rw [hn']⟩, q⟩
  refine ⟨PE.imp (pe_callB hcall hg hm PySem.boot_len (pa_cons (pe_setL hg2 hm2 G.calm ha.pe na) pa_nil he) (he := he) (hpl := rfl)) fun σ H Q ⟨I, M, ρ, e, q⟩ => ?_⟩
  refine ⟨I, M, ρ, e, q.bind.mono fun x hx v H1 M1 k1 e1 r1 => ?_⟩
  obtain ⟨ns, rfl, hl, hx⟩ := setIntsL_rd hx.bind
  cases r1 with
  | lst h r =>
    cases r.ints
    have hd := distI_le' ns
    refine ⟨_, ns, rfl, SqL.of (e1.mok.same _ _ h), hl, fun p0 S hp => ?_⟩
    have sm : Same H1 (upd H1 p0 (.set S (distI ns).length)) := upd_same_of hp
    have g : Grow M1 H1 M1 (upd H1 p0 (.set S (distI ns).length)) := ⟨sm, Same.refl _, fun b o z => ⟨sm _ _ (e1.mok b o z).1, (e1.mok b o z).2⟩, (fun b o z n => by rw [z] at n; cases n), (fun b o z n => by rw [z] at n; cases n)⟩
    exact ⟨p0, S, _, rfl, upd_same, by omega, hx _ _ M1 (k1.trans (.of g)) (e1.grow g) (.int _)⟩
end
end PL

set_option Elab.async false
set_option linter.all false
set_option maxRecDepth 100000
set_option maxHeartbeats 4000000
/-! t[::-1], t a tuple -/
namespace PL
open PySem PySem.Spec PyProof.Rows L2
theorem adj_rev (n : Nat) : Builtin.Slice.sliceAdjust none none (-1) (n : Int) = ((n : Int) - 1, -1) := by
  simp [Builtin.Slice.sliceAdjust]
theorem places_rev (n : Nat) : Builtin.Slice.slicePlaces ((n : Int) - 1) (-1) (-1) = n := by
  unfold Builtin.Slice.slicePlaces
  have h1 : ¬ ((-1 : Int) > 0) := by decide
  simp only [h1, if_false]
  by_cases h : (n : Int) - 1 > -1
  · rw [if_pos h, show (- -1 : Int) = 1 by decide, Int.ediv_one]
    omega
  · rw [if_neg h]
    omega
section
variable {prog : Program} {w : World} {A : Around} {E : Value → Shared → Prop} {s : Shared}
theorem applied_rev {sl : Addr} {vs : Value} {n : Nat} {Q : Int × Int × Nat → Shared → Prop} (hs : s.heap.IsSliceOf sl .none .none vs) (ps : IsPart vs (some (-1))) (h : Q ((n : Int) - 1, -1, n) s) : wpAny (model prog w) A (Builtin.Slice.sliceApplied (.ref sl) (pure (n : Int))) Q E s := by
  obtain ⟨os, hos, hcs, hds⟩ := id hs
  unfold Builtin.Slice.sliceApplied Builtin.Slice.sliceFields
  refine wpAny_bind (wpAny_bind (wpAny_field hos hds (x := .none) rfl (wpAny_bind (wpAny_field hos hds (x := .none) rfl (wpAny_bind (wpAny_field hos hds (x := vs) rfl (wpAny_pure ?_)))))))
  refine wpAny_bind (HT.slicePart_ ps ?_)
  show wpAny _ _ (if ((-1 : Int) == 0) = true then _ else _) _ _ s
  rw [if_neg (by decide)]
  refine wpAny_bind (HT.slicePart_ .none (wpAny_bind (HT.slicePart_ .none (wpAny_bind (wpAny_pure ?_)))))
  show wpAny _ _ (match Builtin.Slice.sliceAdjust none none (-1) (n : Int) with | (lo, hi) => pure (lo, (-1 : Int), Builtin.Slice.slicePlaces lo hi (-1))) _ _ s
  rw [adj_rev n]
  show wpAny _ _ (pure ((n : Int) - 1, (-1 : Int), Builtin.Slice.slicePlaces ((n : Int) - 1) (-1) (-1))) _ _ s
  rw [places_rev]
  exact wpAny_pure h
theorem fm_congr {α β : Type} {f g : α → Option β} : ∀ {l : List α}, (∀ m ∈ l, f m = g m) → l.filterMap f = l.filterMap g
  | [], _ => rfl
  | a :: l, h => by rw [List.filterMap_cons, List.filterMap_cons, h a (List.mem_cons_self ..), fm_congr fun m hm => h m (List.mem_cons_of_mem _ hm)]
theorem pick_rev (xs : Array Value) : ((List.range xs.size).filterMap fun (m : Nat) => xs[((xs.size : Int) - 1 + (m : Int) * (-1)).toNat]?).toArray = xs.toList.reverse.toArray := by
  have e : (List.range xs.size).filterMap (fun (m : Nat) => xs[((xs.size : Int) - 1 + (m : Int) * (-1)).toNat]?) = ((List.range xs.size).map fun k => xs.size - 1 - k).filterMap (xs[·]?) := by
    rw [List.filterMap_map]
    refine fm_congr fun m hm => ?_
    have := List.mem_range.mp hm
    show xs[((xs.size : Int) - 1 + (m : Int) * (-1)).toNat]? = xs[xs.size - 1 - m]?
    have e2 : ((xs.size : Int) - 1 + (m : Int) * (-1)).toNat = xs.size - 1 - m := by omega
    rw [e2]
  rw [e, PySem.W.krv_range, List.filterMap_reverse, PySem.W.krv_all]
theorem getItem_rev {t sl : Addr} {items : Array Value} {vs : Value} {Q : Value → Shared → Prop} (ht : IsTup s.heap t items) (hs : s.heap.IsSliceOf sl .none .none vs) (ps : IsPart vs (some (-1)))
    (h : Q (.ref s.heap.objs.size) { s with heap := s.heap.push { cls := .type "tuple", data := .seq items.toList.reverse.toArray } }) (hsz : items.size ≤ sizeLine) : wpAny (model prog w) A (getItem (.ref t) (.ref sl)) Q E s := by
  have hok : sizeOk (.seq items.toList.reverse.toArray) := by
    show items.toList.reverse.toArray.size ≤ sizeLine
    rw [List.size_toArray, List.length_reverse, Array.length_toList]
    exact hsz
  obtain ⟨os, hos, hcs, hds⟩ := id hs
  have hTs : s.TypeIs (.ref sl) "slice" := ⟨os, hos, hcs⟩
  unfold getItem
  try with_reducible refine wpAny_holding ?_
  first | refine wpAny_bind (wpAny_pure ?_) | skip
  refine wpAny_bind (wpAny_sequenceKey ht.typeIs (by decide) (wpAny_bind (wpAny_callSpecial?_slot (name := Str.ofString "__getitem__") ht.typeIs PyProof.Rows.slot_tuple_getitem (wpAny_call_entry PyProof.Rows.slot_tuple_getitem ht.typeIs entry_tuple_getitem ?_ (args_tuple_getitem _ _)))))
  show wpAny _ _ (Builtin.Tuple.tupleItemsOf (.ref t) >>= _) _ _ s
  refine wpAny_bind (tupleItemsOf_ ht (wpAny_bind (wpAny_typeOf hTs ?_)))
  rw [if_pos (by decide)]
  refine wpAny_bind (applied_rev hs ps ?_)
  have hno : ¬ ((((items.size : Int) - 1) == 0 && (-1 : Int) == 1 && items.size == items.size) = true) := by
    intro q
    rw [Bool.and_eq_true, Bool.and_eq_true] at q
    have := eq_of_beq q.1.2
    omega
  show wpAny _ _ (if (((items.size : Int) - 1) == 0 && (-1 : Int) == 1 && items.size == items.size) = true then _ else _) _ _ s
  rw [if_neg hno, pick_rev]
  first
    | exact wpAny_bind (m := Builtin.Tuple.tupleExact _) (wpAny_newObj_type (wpAny_pure ⟨_, rfl, wpAny_pure h⟩) hok)
    | exact wpAny_bind (m := Builtin.Tuple.tupleExact _) (wpAny_newObj_type (wpAny_bind (wpAny_pure (wpAny_pure ⟨_, rfl, wpAny_pure h⟩))) hok)
    | exact wpAny_bind (wpAny_bind (m := Builtin.Tuple.tupleExact _) (wpAny_newObj_type (wpAny_pure (wpAny_pure ⟨_, rfl, wpAny_pure h⟩)) hok))
    | exact wpAny_bind (wpAny_bind (m := Builtin.Tuple.tupleExact _) (wpAny_newObj_type (wpAny_pure ⟨_, rfl, wpAny_pure h⟩) hok))
end
section
variable {B : ObjB} {X : Cx} {c : Ctx B} {pos : Pos} {e : Expr} {f : Env B → R D}
def tRevT (K : PySem.W.Frag) (te : TE) : TE := fun σ H Q => te σ H fun x H1 => ∃ a xs, x = .ref a ∧ SqT K H1 a xs ∧ ∀ p, H1 p = none → Q (.ref p) (upd H1 p (.tup xs.reverse))
theorem pe_revT {te : TE} {k : Nat} {p1 p2 p3 : Pos} (he : PE X e te) : PE X (.Subscript e (.Slice none none (some (.UnaryOp .USub (.Constant (.int 1) k p1) p2)) p3) pos) (tRevT X.K te) := by
  refine ⟨fun pins s σ H Q I h => ?_⟩
  refine Subscript_ (thn (he.run pins s σ H _ I h) fun v s1 ⟨x, H1, I1, r1, a, xs, ex, hx, q⟩ => ?_)
  subst ex
  cases r1
  have hst : PO X (some (.UnaryOp .USub (.Constant (.int 1) k p1) p2)) (tPart (tUn (rU fun i => .int (-i)) (tC (.int 1)))) := po_some (pe_un un_neg pe_int)
  refine wpAny_Slice (thn (po_none.run pins s1 σ H1 (fun o H2 => o = none ∧ H2 = H1) I1 ⟨rfl, rfl⟩) fun vl s2 ⟨l, H2, I2, pl, z1, z2⟩ => ?_)
  subst z1 z2
  refine thn (po_none.run pins s2 σ H2 (fun o H3 => o = none ∧ H3 = H2) I2 ⟨rfl, rfl⟩) fun vu s3 ⟨u, H3, I3, pu, z1, z2⟩ => ?_
  subst z1 z2
  refine thn (hst.run pins s3 σ H3 (fun o H4 => o = some (-1) ∧ H4 = H3) I3 ⟨1, rfl, -1, rfl, rfl, rfl⟩) fun vs s4 ⟨o, H4, I4, ps, z1, z2⟩ => ?_
  subst z1 z2
  cases pl
  cases pu
  have I5 : Inv X pins σ H4 { s4 with heap := s4.heap.push { cls := .type "slice", data := .fields #[.none, .none, vs] } } := I4.kept (t' := s4.toks) fun b ob q => Heap.get?_push_of_some _ q
  obtain ⟨its, r, ht, hz⟩ := I5.tuple hx
  have hlen := r.length
  show wpAny (model X.prog X.w) X.A (subscriptTail e (.Slice none none (some (.UnaryOp .USub (.Constant (.int 1) k p1) p2)) p3) (.ref a) (.ref s4.heap.objs.size)) (EP X pins σ Q) X.xe { s4 with heap := s4.heap.push { cls := .type "slice", data := .fields #[.none, .none, vs] } }
  refine tail_any (ops := [.ref a, .ref s4.heap.objs.size]) ht.typeIs (PyProof.Rows.slot_tuple_getitem.lookup) (getItem_rev ht (Heap.IsSliceOf.new _ .none .none vs) ps ?_ (by rw [List.size_toArray]; omega)) (by with_unfolding_all rfl)
  refine ⟨.ref _, _, I5.laid (t' := s4.toks) (o := .tup xs.reverse) (fun b ob q => Heap.get?_push_of_some _ q) (Nat.le_refl _) ?_, rfl, q _ (I5.hok.fresh (Nat.le_refl _))⟩
  exact ⟨by rw [List.length_reverse]; exact hz, _, r.reverse, _, Heap.get?_push_size _ rfl, rfl, 0, rfl⟩
def dRevT : D → R D
  | .tuple xs => .ok (.tuple xs.reverse)
  | _ => .stuck
theorem de_revT {j : Nat} {p1 p2 p3 : Pos} (K : c.K = X.K) (he : DE X c e f) : DE X c (.Subscript e (.Slice none none (some (.UnaryOp .USub (.Constant (.int 1) j p1) p2)) p3) pos) (e1 dRevT f) := by
  refine ⟨PE.imp (pe_revT he.pe) fun σ H Q ⟨I, M, ρ, e, q⟩ => ?_⟩
  refine ⟨I, M, ρ, e, q.bind.mono fun x hx v H1 M1 k1 e1 r1 => ?_⟩
  obtain ⟨d, hd, hp⟩ := hx.noE
  unfold dRevT at hd
  split at hd
  · cases hd
    cases r1 with
    | tup h r => exact ⟨_, _, rfl, K ▸ sqT_same e1.mok.same h, fun p hq => post_grow hp k1 e1 _ _ _ (.alloc e1.mok hq rfl) (.newT (e1.mok.free hq) r.reverse)⟩
  · cases hd
end
end PL

set_option Elab.async false
set_option linter.all false
set_option maxRecDepth 100000
set_option maxHeartbeats 4000000
/-! t == (): whatever t holds -/
namespace PL
open PySem PySem.Spec PyProof.Rows L2
section
variable {X : Cx}
def dEqN : D → D → R D
  | .tuple xs, .tuple [] => .ok (.bool xs.isEmpty)
  | _, _ => .stuck
def rEqN (K : PySem.W.Frag) : R2 := fun x y H Q => ∃ a xs b, x = .ref a ∧ y = .ref b ∧ SqT K H a xs ∧ SqT K H b [] ∧ Q (.bl xs.isEmpty) H
theorem op_eqN (hu : X.A.units < cLine) : OpR X (compareOp .Eq) (rEqN X.K) := by
  intro pins s σ H x y v u Q I rx ry h
  obtain ⟨a, xs, b, rfl, rfl, ha, hb, q⟩ := h
  cases rx
  cases ry
  obtain ⟨its, r, ht, _⟩ := I.tuple ha
  obtain ⟨its2, r2, ht2, _⟩ := I.tuple hb
  cases r2
  refine SeqAt.eq_tupleAt (e := fun _ => true) ht ht2 hu (fun j h1 h2 => absurd h2 (by simp)) ?_
  have hlen := r.length
  have e : ((List.range (min its.toArray.size ([] : List Value).toArray.size)).all (fun _ => true) && its.toArray.size == ([] : List Value).toArray.size) = xs.isEmpty := by
    cases xs with
    | nil => cases r; rfl
    | cons x xs => cases its with
      | nil => simp at hlen
      | cons y ys => simp
  rw [e]
  exact ⟨.bl _, H, I, rfl, q⟩
theorem ok_eqN {K : PySem.W.Frag} : Ok2 K (rEqN K) dEqN := by
  intro M H v w dv dw d Q k rv rw' h q
  unfold dEqN at h
  split at h
  · cases h
    cases rv with
    | tup ha ra =>
      cases rw' with
      | tup hb rb =>
        cases rb
        refine ⟨_, _, _, rfl, rfl, sqT_same k.same ha, sqT_same k.same hb, ?_⟩
        have e := ra.length
        have e2 : ∀ (vs : List V) (ds : List D), vs.length = ds.length → vs.isEmpty = ds.isEmpty := fun vs ds e => by cases vs <;> cases ds <;> simp at e ⊢
        rw [e2 _ _ e]
        exact q _ _ _ (.refl k) (.bl _)
  · cases h
def cEqN {k : Nat} (h : Room k X.A) : CmpD X .Eq dEqN := ⟨_, op_eqN (by have := units64 h; omega), ok_eqN⟩
end
end PL

set_option Elab.async false
set_option linter.all false
set_option maxRecDepth 100000
set_option maxHeartbeats 4000000
/-! the dict of what is known: its keys are tuples (tuple of ints, int) -/
namespace PL
open PySem PySem.Spec PyProof.Rows L2
theorem hashes_nums (w w' : World) : ∀ s : List Int, NestedKey.hashes w (s.map NestedKey.num) = NestedKey.hashes w' (s.map NestedKey.num)
  | [] => rfl
  | i :: s => by simp only [List.map_cons, NestedKey.hashes, hashes_nums w w' s, NestedKey.hash]
theorem hash_keyN (w w' : World) (s : List Int) (n : Nat) : NestedKey.hash w (keyN s n) = NestedKey.hash w' (keyN s n) := by
  simp only [keyN, NestedKey.hash, NestedKey.hashes, hashes_nums w w' s]
theorem depth_nums : ∀ s : List Int, NestedKey.depthAll (s.map NestedKey.num) = 0
  | [] => rfl
  | i :: s => by simp only [List.map_cons, NestedKey.depthAll, depth_nums s, NestedKey.depth]; rfl
theorem depth_keyN (s : List Int) (n : Nat) : (keyN s n).depth ≤ 8 := by
  simp only [keyN, NestedKey.depth, NestedKey.depthAll, depth_nums]
  decide
theorem nums_inj : ∀ {s t : List Int}, s.map NestedKey.num = t.map NestedKey.num → s = t
  | [], [], _ => rfl
  | [], _ :: _, h => by simp at h
  | _ :: _, [], h => by simp at h
  | a :: s, b :: t, h => by
    simp only [List.map_cons, List.cons.injEq, NestedKey.num.injEq] at h
    rw [h.1, nums_inj h.2]
theorem keyN_inj {s t : List Int} {n m : Nat} (h : keyN s n = keyN t m) : s = t ∧ n = m := by
  simp only [keyN, NestedKey.tup.injEq, List.cons.injEq, NestedKey.num.injEq, and_true] at h
  exact ⟨nums_inj h.1, by omega⟩
section
variable {X : Cx} {pins : List (Addr × Obj)} {σ : L2.St} {H : Hp} {s : Shared} {b q : Addr} {xs : MX} {t : List Int} {n : Nat}
theorem nums_all {h : Heap} : ∀ {t : List Int} {us : List Value}, Vals (t.map V.int) us → NestedAll h (t.map NestedKey.num) us
  | [], _, r => by cases r; exact .nil
  | i :: t, _, r => by
    cases r with
    | cons r0 r1 =>
      obtain ⟨k, rfl⟩ := r0
      exact .cons (.int i k) (nums_all r1)
theorem KeyAt.is (I : Inv X pins σ H s) (h : KeyAt X.K H q t n) : (nestedKind X.prog X.w).is s.heap (keyN t n) q := by
  obtain ⟨p, h1, h2⟩ := h
  obtain ⟨its, r, ⟨o, ho, hc, k, hd⟩, _⟩ := I.tuple h1
  obtain ⟨its2, r2, ⟨o2, ho2, hc2, k2, hd2⟩, _⟩ := I.tuple h2
  refine ⟨?_, depth_keyN t n⟩
  cases r with
  | cons ra rb =>
    cases rb with
    | cons rb rc =>
      cases rc
      cases ra
      obtain ⟨tk, rfl⟩ := rb
      exact .tup ho hc hd (.cons (.tup ho2 hc2 hd2 (nums_all r2)) (.cons (.int _ tk) .nil))
theorem mem_dict (I : Inv X pins σ H s) (hx : H b = some (.ext (dictP b xs))) (hk : ∀ x ∈ xs, KeyAt X.K H x.2.1 x.1.1 x.1.2) : s.heap.DictOfH (nestedKind X.prog X.w) b (memX xs) := by
  obtain ⟨⟨w, o, es, ep, h1, h2, h3, h4, h5⟩, _⟩ := I.hok b _ hx
  refine ⟨o, es, ep, h1, h2, h3, ?_, fun x hx' => ?_, h5⟩
  · rw [h4]
    refine List.map_congr_left fun x hx' => ?_
    obtain ⟨y, _, rfl⟩ := List.mem_map.mp hx'
    unfold entryOfKey
    rw [hash_keyN w X.w]
    rfl
  · obtain ⟨y, hy, rfl⟩ := List.mem_map.mp hx'
    exact (hk y hy).is I
theorem room_mem {A : Around} (hu : A.units + 65 < cLine) {P : Program} {w : World} : (nestedKind P w).room A.in1 := by
  show A.units + 1 + 8 < cLine
  omega
/-- the key's row -/
def atM (xs : MX) (t : List Int) (n : Nat) : Option (Addr × Value) := atKey (memX xs) (keyN t n)
theorem atM_some {p : Addr × Value} (h : atM xs t n = some p) : ∃ x ∈ xs, x.1 = (t, n) ∧ p = (x.2.1, .bool x.2.2) := by
  unfold atM atKey at h
  obtain ⟨y, hy, rfl⟩ := Option.map_eq_some_iff.mp h
  have h1 := List.mem_of_find?_eq_some hy
  have h2 := List.find?_some hy
  obtain ⟨x, hx, rfl⟩ := List.mem_map.mp h1
  have h3 := keyN_inj (of_decide_eq_true h2)
  exact ⟨x, hx, Prod.ext h3.1 h3.2, rfl⟩
def rNotInM (K : PySem.W.Frag) : R2 := fun x y H Q => ∃ q t n b xs, x = .ref q ∧ y = .ref b ∧ KeyAt K H q t n ∧ (b == sysModules) = false ∧ H b = some (.ext (dictP b xs)) ∧ (∀ x ∈ xs, KeyAt K H x.2.1 x.1.1 x.1.2) ∧ Q (.bl (!(atM xs t n).isSome)) H
theorem op_notInM (hu : X.A.units + 65 < cLine) : OpR X (compareOp .NotIn) (rNotInM X.K) := by
  intro pins s σ H x y v u Q I rx ry h
  obtain ⟨q, t, n, b, xs, rfl, rfl, hk, hb, hx, hks, hq⟩ := h
  cases rx
  cases ry
  exact wpAny_notIn_heap (room_mem hu) (hk.is I) hb (mem_dict I hx hks) ⟨.bl _, H, I.tok _, rfl, hq⟩
def rGetM (K : PySem.W.Frag) : R2 := fun x y H Q => ∃ q t n b xs p bv, x = .ref b ∧ y = .ref q ∧ KeyAt K H q t n ∧ H b = some (.ext (dictP b xs)) ∧ (∀ x ∈ xs, KeyAt K H x.2.1 x.1.1 x.1.2) ∧ atM xs t n = some (p, .bool bv) ∧ Q (.bl bv) H
theorem pe_getM {o i : Expr} {to ti : TE} {pos : Pos} (hu : X.A.units + 65 < cLine) (ho : PE X o to) (hi : PE X i ti) (hs : NoSl i) : PE X (.Subscript o i pos) (tOp (rGetM X.K) to ti) := by
  refine ⟨fun pins s σ H Q I h => ?_⟩
  refine subD_of PySem.F.slot_dict_getitem.lookup hs (thn (ho.run pins s σ H _ I h) fun u s1 ⟨x, H1, I1, rx, q1⟩ => thn (hi.run pins s1 σ H1 _ I1 q1) fun iv s2 ⟨y, H2, I2, ry, q, t, n, b, xs, p, bv, ex, ey, hk, hx, hks, ha, q2⟩ => ?_)
  subst ex
  subst ey
  cases rx
  cases ry
  have dd := mem_dict I2 hx hks
  exact ⟨dd.typeIs, wpAny_getItem_heap (room_mem hu) (hk.is I2) dd ha ⟨.bl bv, H2, I2.tok _, rfl, q2⟩⟩
end
/-! ### how many keys there are -/
theorem nodup_sub {α : Type} [DecidableEq α] : ∀ {xs ys : List α}, xs.Nodup → (∀ x ∈ xs, x ∈ ys) → xs.length ≤ ys.length
  | [], _, _, _ => Nat.zero_le _
  | x :: xs, ys, hn, h => by
    rw [List.nodup_cons] at hn
    have hx := h x (List.mem_cons_self ..)
    have := nodup_sub (xs := xs) (ys := ys.erase x) hn.2 fun y hy => (List.mem_erase_of_ne (by intro e; subst e; exact hn.1 hy)).mpr (h y (List.mem_cons_of_mem _ hy))
    have h2 := List.length_erase_of_mem hx
    have h3 := List.length_pos_iff.mpr (List.ne_nil_of_mem hx)
    rw [List.length_cons]
    omega
theorem subsI_len : ∀ s : List Int, (subsI s).length = 2 ^ s.length
  | [] => rfl
  | x :: r => by
    rw [subsI, List.length_append, List.length_map, subsI_len r, List.length_cons, Nat.pow_succ]
    omega
theorem prod_len {α β : Type} (l : List α) (m : List β) : (l.flatMap fun a => m.map fun b => (a, b)).length = l.length * m.length := by
  induction l with
  | nil => simp
  | cons a l ih => rw [List.flatMap_cons, List.length_append, List.length_map, ih, List.length_cons, Nat.succ_mul]; omega
theorem mem_len {K : PySem.W.Frag} {M H : Hp} {b : Addr} {xs : MX} {X : Cx} {pins : List (Addr × Obj)} {σ : L2.St} {s : Shared} (I : Inv X pins σ H s) (hx : H b = some (.ext (dictP b xs))) (hk : ∀ x ∈ xs, x.1.1 ∈ subs12 ∧ x.1.2 < 20) : xs.length ≤ sizeLine := by
  obtain ⟨⟨w, o, es, ep, h1, h2, h3, h4, h5⟩, _⟩ := I.hok b _ hx
  have nd : (xs.map (·.1)).Nodup := by
    have e : (memX xs).map (·.1) = (xs.map (·.1)).map fun k => keyN k.1 k.2 := by
      unfold memX
      rw [List.map_map, List.map_map]
      rfl
    rw [e] at h5
    exact (List.pairwise_map.mp h5).imp fun h e => h (by rw [e])
  have sub : ∀ x ∈ xs.map (·.1), x ∈ subs12.flatMap fun a => (List.range 20).map fun b => (a, b) := fun x hx => by
    obtain ⟨y, hy, rfl⟩ := List.mem_map.mp hx
    exact List.mem_flatMap.mpr ⟨y.1.1, (hk y hy).1, List.mem_map.mpr ⟨y.1.2, List.mem_range.mpr (hk y hy).2, rfl⟩⟩
  have := nodup_sub nd sub
  rw [List.length_map, prod_len, List.length_range] at this
  have e12 : subs12.length = 4096 := by unfold subs12; rw [subsI_len]; rfl
  rw [e12] at this
  exact Nat.le_trans this (by decide)
section
variable {X : Cx} {pins : List (Addr × Obj)} {σ : L2.St} {H : Hp} {s : Shared} {b q : Addr} {xs : MX} {t : List Int} {n : Nat}
/-- the rows behind a store -/
def putM (xs : MX) (t : List Int) (n : Nat) (q : Addr) (bv : Bool) : MX := if (atM xs t n).isSome then xs.map (fun x => if x.1 = (t, n) then (x.1, x.2.1, bv) else x) else xs ++ [((t, n), q, bv)]
theorem memX_put (xs : MX) (t : List Int) (n : Nat) (q : Addr) (bv : Bool) : memX (putM xs t n q bv) = storedH (memX xs) (keyN t n) q (.bool bv) := by
  unfold putM storedH
  show memX (if (atKey (memX xs) (keyN t n)).isSome then _ else _) = _
  by_cases h : (atKey (memX xs) (keyN t n)).isSome = true
  · rw [if_pos h, if_pos h]
    unfold memX
    rw [List.map_map, List.map_map]
    refine List.map_congr_left fun x _ => ?_
    obtain ⟨⟨t', n'⟩, q', b'⟩ := x
    simp only [Function.comp_def, putAt]
    by_cases e : (t', n') = (t, n)
    · cases e
      rw [if_pos rfl, if_pos rfl]
    · rw [if_neg e, if_neg]
      intro z
      obtain ⟨z1, z2⟩ := keyN_inj z
      exact e (by rw [z1, z2])
  · rw [if_neg h, if_neg h]
    unfold memX
    rw [List.map_append]
    rfl
theorem putM_mem {bv : Bool} {x : (List Int × Nat) × Addr × Bool} (h : x ∈ putM xs t n q bv) : x ∈ xs ∨ (x.1 = (t, n) ∧ x.2.2 = bv ∧ (x.2.1 = q ∨ ∃ y ∈ xs, y.1 = (t, n) ∧ y.2.1 = x.2.1)) := by
  unfold putM at h
  split at h
  · obtain ⟨y, hy, rfl⟩ := List.mem_map.mp h
    by_cases e : y.1 = (t, n)
    · rw [if_pos e]; exact .inr ⟨e, rfl, .inr ⟨y, hy, e, rfl⟩⟩
    · rw [if_neg e]; exact .inl hy
  · rcases List.mem_append.mp h with h | h
    · exact .inl h
    · rw [List.mem_singleton] at h
      subst h
      exact .inr ⟨rfl, rfl, .inl rfl⟩
def rSetM (K : PySem.W.Frag) : TSet := fun o i v H Q => ∃ q t n b xs bv, o = .ref b ∧ i = .ref q ∧ v = .bl bv ∧ KeyAt K H q t n ∧ H b = some (.ext (dictP b xs)) ∧ (∀ x ∈ xs, KeyAt K H x.2.1 x.1.1 x.1.2 ∧ x.1.1 ∈ subs12 ∧ x.1.2 < 20) ∧ Q (upd H b (.ext (dictP b (putM xs t n q bv))))
theorem dictP_stay {b : Addr} {xs : MX} : ∀ h1 h2 : Heap, dictP b xs h1 → (∀ o, h1.get? b = some o → h2.get? b = some o) → dictP b xs h2 := fun h1 h2 ⟨w, o, es, ep, e, r⟩ k => ⟨w, o, es, ep, k _ e, r⟩
theorem set_M (hu : X.A.units + 65 < cLine) : PSet X (rSetM X.K) := by
  intro pins s σ H o i v ov iv u Q I ro ri rv h
  obtain ⟨q, t, n, b, xs, bv, rfl, rfl, rfl, hk, hx, hks, hq⟩ := h
  have hl := mem_len (K := X.K) (M := H) I hx fun x hx => (hks x hx).2
  cases ro
  cases ri
  cases rv
  refine wpAny_setItem_heap (hsz := by unfold memX; rw [List.length_map]; exact hl) (room_mem hu) (hk.is I) (mem_dict I hx fun x hx => (hks x hx).1) fun h' dd' hs => ?_
  obtain ⟨oo, es, ep, hq', h2, h3, h4, _, h5⟩ := dd'
  rw [← memX_put] at h4 h5
  refine ⟨_, d_write I (by rw [hx]; exact True.intro) hs ⟨oo, hq'⟩ ?_, hq⟩
  refine ⟨⟨X.w, oo, es, ep, hq', h2, h3, ?_, h5⟩, ⟨oo, hq'⟩, dictP_stay⟩
  rw [h4]
  rfl
def tNewM : TE := fun _ H Q => ∀ p, H p = none → (p == sysModules) = false → Q (.ref p) (upd H p (.ext (dictP p [])))
theorem pe_newM {pos : Pos} : PE X (.Dict [] [] pos) tNewM := ⟨fun pins s σ H Q I h => by
  have hn : (s.heap.objs.size == sysModules) = false := beq_eq_false_iff_ne.mpr (Ne.symm (Nat.ne_of_lt I.big))
  refine wpAny_Dict_empty ⟨.ref s.heap.objs.size, _, I.laid (a := s.heap.objs.size) (o := .ext (dictP s.heap.objs.size [])) (t' := s.toks) (fun _ _ q => Heap.get?_push_of_some _ q) (Nat.le_refl _) ?_, rfl, h _ (I.hok.fresh (Nat.le_refl _)) hn⟩
  exact ⟨⟨X.w, _, #[], 0, Heap.get?_push_size _ rfl, ⟨rfl, rfl, rfl⟩, rfl, rfl, List.nodup_nil⟩, ⟨_, Heap.get?_push_size _ rfl⟩, dictP_stay⟩⟩
end
end PL

set_option Elab.async false
set_option linter.all false
set_option maxRecDepth 100000
set_option maxHeartbeats 4000000
/-! the class Search: fields, methods, what is known -/
namespace PL
open PySem PySem.Spec PyProof.Rows L2
section
variable {B : ObjB} {P : Program} {w : World} {K : PySem.W.Frag} {mg : Str → Option Value} {base : Heap} {cA : Nat → Addr} {X : Cx} {c : Ctx B} {pos : Pos} {I : Ent} {M H M' H' : Hp} {σ σ' : L2.St} {ρ ρ' : Env B}
abbrev selfD (d1 d2 d3 : D) : D := .dict [(.none, .tuple [d1, d2, d3])]
abbrev fldsS (v1 v2 v3 v4 : V) : List (Str × V) := [("cases", v1), ("pans", v2), ("rows", v3), ("known", v4)]
theorem Rep.self {v : V} {d1 d2 d3 : D} (r : Rep K M v (selfD d1 d2 d3)) : ∃ a dx b v1 v2 v3, v = .ref a ∧ M a = some (.ins (clsS K) dx (fldsS v1 v2 v3 (.ref b))) ∧ Rep K M v1 d1 ∧ Rep K M v2 d2 ∧ Rep K M v3 d3 := by
  cases r with
  | obj h r1 r2 r3 => exact ⟨_, _, _, _, _, _, rfl, h, r1, r2, r3⟩
/-! ### e.f -/
def dFld (k : Nat) : D → R D
  | .dict [(.none, .tuple [d1, d2, d3])] => match k with
    | 0 => .ok d1
    | 1 => .ok d2
    | _ => .ok d3
  | _ => .stuck
theorem de_fld {k : Nat} {x : Str} {e : Expr} {f : Env B → R D} (hK : c.K = X.K) (F : Cls X.K (clsS X.K)) (n : NoAttr X.K (clsS X.K) x) (ha : DE X c e f) (hb : attributeBase e x X.env (eval e X.env) = eval e X.env := by rfl)
    (hk : ∀ v1 v2 v3 v4 : V, (fldsS v1 v2 v3 v4).lookup x = some (match k with | 0 => v1 | 1 => v2 | _ => v3) := by intro _ _ _ _; rfl) : DE X c (.Attribute e x pos) (e1 (dFld k) f) := by
  refine ⟨PE.imp (pe_fld ha.pe hb) fun σ H Q ⟨I, M, ρ, e, q⟩ => ?_⟩
  refine ⟨I, M, ρ, e, q.bind.mono fun y hx v H1 M1 k1 e1 r1 => ?_⟩
  obtain ⟨d, hd, hp⟩ := hx.noE
  unfold dFld at hd
  split at hd
  · rename_i d1 d2 d3
    obtain ⟨a, dx, b, v1, v2, v3, rfl, h, r1, r2, r3⟩ := Rep.self r1
    have hH := (e1.mok a _ h).1
    match k, hd, hk with
    | 0, hd, hk => cases hd; exact ⟨a, clsS c.K, dx, _, _, rfl, hH, hK ▸ F, hK ▸ n, hk _ _ _ _, hp _ H1 M1 k1 e1 r1⟩
    | 1, hd, hk => cases hd; exact ⟨a, clsS c.K, dx, _, _, rfl, hH, hK ▸ F, hK ▸ n, hk _ _ _ _, hp _ H1 M1 k1 e1 r2⟩
    | k + 2, hd, hk => cases hd; exact ⟨a, clsS c.K, dx, _, _, rfl, hH, hK ▸ F, hK ▸ n, hk _ _ _ _, hp _ H1 M1 k1 e1 r3⟩
  · cases hd
/-! ### e.m(..) -/
structure DfM (P : Program) (w : World) (K : PySem.W.Frag) (mg : Str → Option Value) (base : Heap) (cA : Nat → Addr) (m : Str) (k ar : Nat) (F : List D → R D) : Prop where
  ex : ∃ fd ps, List.length (α := Str) ps = ar ∧ FnOk P w K mg base (L2N.CX P w) k (He.ma K (clsS K) m) fd ps (spD K cA ar F) ∧ Meth K (clsS K) m (He.ma K (clsS K) m) ∧ Binds K fd ps []
theorem DfM.mono {m : Str} {k j ar : Nat} {F : List D → R D} (d : DfM P w K mg base cA m k ar F) (h : k ≤ j) : DfM P w K mg base cA m j ar F := by
  obtain ⟨fd, ps, h1, h2, h3, h4⟩ := d.ex
  exact ⟨fd, ps, h1, h2.mono h, h3, h4⟩
theorem dm_mk {x m qual : Str} {params : Arguments} {body : List Stmt} {scope : Scope} {kws : List (Str × V)} {fd : FuncData} {N ps : List Str} {k : Nat} {g : GS B} (FD : FunD K x qual params body scope [] kws (He.ma K (clsS K) m) fd) (S : FnScope N ps scope)
    (hb : Binds K fd ps []) (hm : Meth K (clsS K) m (He.ma K (clsS K) m))
    (hbody : ∀ (cdv : Value) (A : Around) (outer : List PySem.Env) (s : Shared) (H : Hp) (E : XK), GoodS (B := B) (bodyC P w K mg base N qual scope (He.ma K (clsS K) m) cdv A outer s H E) ⟨K, cA, E⟩ k → DSs (bodyC P w K mg base N qual scope (He.ma K (clsS K) m) cdv A outer s H E) ⟨K, cA, E⟩ body g) :
    DfM P w K mg base cA m (k + 1) ps.length (runF N.length g) := ⟨fd, ps, rfl, fnok_mk FD S hbody, hm, hb⟩
theorem dm_stuck {x m qual : Str} {params : Arguments} {body : List Stmt} {scope : Scope} {kws : List (Str × V)} {fd : FuncData} {ps : List Str} {k : Nat} (FD : FunD K x qual params body scope [] kws (He.ma K (clsS K) m) fd)
    (hb : Binds K fd ps []) (hm : Meth K (clsS K) m (He.ma K (clsS K) m)) : DfM P w K mg base cA m k ps.length (fun _ => .stuck) :=
  ⟨fd, ps, rfl, ⟨fun vs H Q E h => h.1, fun A outer s H args us vs Q E hr e0 hbn r h => h.2.elim fun _ h => h.elim fun _ h => h.2.2.elim⟩, hm, hb⟩
def isSelf : D → Bool
  | .dict [(.none, .tuple [_, _, _])] => true
  | _ => false
def eMeth (ar : Nat) (F : List D → R D) (fo : Env B → R D) (f : Env B → R (List D)) : Env B → R D := fun ρ => (fo ρ).bind fun x => if isSelf x = true then (f ρ).bind fun xs => if (x :: xs).length = ar then F (x :: xs) else .stuck else .stuck
theorem isSelf_eq {x : D} (h : isSelf x = true) : ∃ d1 d2 d3, x = selfD d1 d2 d3 := by
  unfold isSelf at h
  split at h
  · exact ⟨_, _, _, rfl⟩
  · cases h
theorem de_meth {pl : Sem Bool} {o e : Expr} {m : Str} {es : List Expr} {fo : Env B → R D} {f : Env B → R (List D)} {k j ar : Nat} {F : List D → R D} {apos : Pos} (G : Good X c k) (Fc : Cls X.K (clsS X.K)) (d : DfM X.prog X.w X.K X.mg X.base c.cA m j ar F) (hj : j ≤ k) (ho : DE X c o fo) (ha : DA X c (e :: es) f)
    (hst : starEach (e :: es) X.env = (false, eval e X.env) :: starEach es X.env := by rfl) (hpl : (backTo pos (starEach es X.env)).any (·.1) = false := by rfl)
    (ht : eval (.Call (.Attribute o m apos) (e :: es) [] pos) X.env = (do
      let ov ← eval o X.env
      standAt apos.atName
      let (f, first) ← holding [ov] (getMethod ov m pl)
      callWith pos f first (backTo pos (starEach (e :: es) X.env)) (backToKw pos (keywordEach [] X.env))) := by rfl)
    (hl : ∀ v1 v2 v3 v4 : V, (fldsS v1 v2 v3 v4).lookup m = none := by intro _ _ _ _; rfl) :
    DE X c (.Call (.Attribute o m apos) (e :: es) [] pos) (eMeth ar F fo f) := by
  obtain ⟨fd, ps, hlen, hF, hm, hb⟩ := d.ex
  refine ⟨PE.imp (pe_meth (pl := pl) ho.pe Fc hm hF (G.room.mono hj) hb .nil G.pass ha.pa hst hpl ht) fun σ H Q ⟨I, M, ρ, e, q⟩ => ?_⟩
  refine ⟨I, M, ρ, e, q.bind.mono fun x hx v H1 M1 k1 e1 r1 => ?_⟩
  split at hx
  · rename_i hsf
    obtain ⟨d1, d2, d3, rfl⟩ := isSelf_eq hsf
    obtain ⟨a, dx, b, v1, v2, v3, rfl, h, _⟩ := Rep.self r1
    refine ⟨a, dx, _, rfl, G.K ▸ (e1.mok a _ h).1, hl _ _ _ _, I, M1, ρ, e1, hx.bind.mono fun xs hxs vs H2 M2 k2 e2 r2 => ?_⟩
    split at hxs
    · rename_i hal
      rw [List.append_nil]
      have rr := Reps.cons (r1.same k2.m) r2
      refine ⟨by rw [rr.length]; exact hal, M2, _, G.K ▸ e2.okT, G.K ▸ rr, ?_⟩
      cases hF' : F (selfD d1 d2 d3 :: xs) with
      | ok r =>
        rw [hF'] at hxs
        exact fun v H' M' g r => hxs v H' M' ((k1.trans k2).trans (.ofT g)) (e2.growT (G.K ▸ g)) (G.K ▸ r)
      | exc n => rw [hF'] at hxs; exact hxs.elim
      | stuck => rw [hF'] at hxs; exact hxs.elim
    · exact hxs.elim
  · exact hx.elim
theorem de_meth0 {pl : Sem Bool} {o : Expr} {m : Str} {fo : Env B → R D} {k j : Nat} {F : List D → R D} {apos : Pos} (G : Good X c k) (Fc : Cls X.K (clsS X.K)) (d : DfM X.prog X.w X.K X.mg X.base c.cA m j 1 F) (hj : j ≤ k) (ho : DE X c o fo)
    (ht : eval (.Call (.Attribute o m apos) [] [] pos) X.env = (do
      let ov ← eval o X.env
      standAt apos.atName
      let (f, first) ← holding [ov] (getMethod ov m pl)
      callWith pos f first (backTo pos (starEach [] X.env)) (backToKw pos (keywordEach [] X.env))) := by rfl)
    (hl : ∀ v1 v2 v3 v4 : V, (fldsS v1 v2 v3 v4).lookup m = none := by intro _ _ _ _; rfl) :
    DE X c (.Call (.Attribute o m apos) [] [] pos) (eMeth 1 F fo aNil) := by
  obtain ⟨fd, ps, hlen, hF, hm, hb⟩ := d.ex
  refine ⟨PE.imp (pe_meth0 (pl := pl) ho.pe Fc hm hF (G.room.mono hj) hb .nil G.pass ht) fun σ H Q ⟨I, M, ρ, e, q⟩ => ?_⟩
  refine ⟨I, M, ρ, e, q.bind.mono fun x hx v H1 M1 k1 e1 r1 => ?_⟩
  split at hx
  · rename_i hsf
    obtain ⟨d1, d2, d3, rfl⟩ := isSelf_eq hsf
    obtain ⟨a, dx, b, v1, v2, v3, rfl, h, _⟩ := Rep.self r1
    refine ⟨a, dx, _, rfl, G.K ▸ (e1.mok a _ h).1, hl _ _ _ _, ?_⟩
    show spD _ _ _ _ _ _ _ _
    have rr := Reps.cons r1 Reps.nil
    refine ⟨rfl, M1, _, G.K ▸ e1.okT, G.K ▸ rr, ?_⟩
    have hx' : RD c I (F [selfD d1 d2 d3]) (Post c I M H σ ρ Q) := hx
    cases hF' : F [selfD d1 d2 d3] with
    | ok r =>
      rw [hF'] at hx'
      exact fun v H' M' g r => hx' v H' M' (k1.trans (.ofT g)) (e1.growT (G.K ▸ g)) (G.K ▸ r)
    | exc n => rw [hF'] at hx'; exact hx'.elim
    | stuck => rw [hF'] at hx'; exact hx'.elim
  · exact hx.elim
/-! ### what is known -/
abbrev tKey (i j : Nat) : TE := tTup (tCons (tVar i) (tCons (tVar j) tNil))
abbrev tKn (K : PySem.W.Frag) (i : Nat) : TE := tFld K (tVar i) "known"
def rowsOf : List D → Option (List (List Int))
  | [] => some []
  | .list xs :: r => match intsOf xs, rowsOf r with
    | some a, some b => some (a :: b)
    | _, _ => none
  | _ => none
theorem rowsOf_eq : ∀ {ds : List D} {rows : List (List Int)}, rowsOf ds = some rows → .list ds = rowsD rows
  | [], rows, h => by cases h; rfl
  | d :: ds, rows, h => by
    unfold rowsOf at h
    split at h
    · cases ‹d :: ds = []›
    · rename_i e
      cases e
      split at h
      · rename_i a b h1 h2
        cases h
        have := rowsOf_eq h2
        unfold rowsD at this ⊢
        cases this
        rw [intsOf_eq h1]
        rfl
      · cases h
    · cases h
/-- if (s, n) not in self.known: self.known[(s, n)] = E; return self.known[(s, n)] -/
def gMemo (is isome inum : Nat) (f : Env B → R D) : GS B := fun ρ => match ρ[is]?, ρ[isome]?, ρ[inum]? with
  | some (.val (.dict [(.none, .tuple [_, _, .list rd])])), some (.val (.tuple sd)), some (.val (.int n)) => match rowsOf rd, intsOf sd with
    | some rows, some s => if 0 ≤ n ∧ n < 20 ∧ s ∈ subs12 then (f ρ).bind fun d => match d with
        | .bool b => if b = fitI rows n.toNat s then .ok (.rt (.bool b), ρ) else .stuck
        | _ => .stuck
      else .stuck
    | _, _ => .stuck
  | _, _, _ => .stuck
/-- the store -/
theorem EnvR.memo {a dx b q : Addr} {C : Addr} {v1 v2 v3 : V} {rows : List (List Int)} {xs : MX} {s : List Int} {n : Nat} {bv : Bool} (e : EnvR K I M H σ ρ) (ha : M a = some (.ins C dx (fldsS v1 v2 v3 (.ref b)))) (hr : Rep K M v3 (rowsD rows)) (hb : (b == sysModules) = false) (hx : H b = some (.ext (dictP b xs)))
    (hk : ∀ x ∈ xs, KeyAt K H x.2.1 x.1.1 x.1.2 ∧ x.2.2 = fitI rows x.1.2 x.1.1 ∧ x.1.1 ∈ subs12 ∧ x.1.2 < 20) (hq : KeyAt K H q s n) (hv : bv = fitI rows n s) (hs : s ∈ subs12) (hn : n < 20) :
    EnvR K I M (upd H b (.ext (dictP b (putM xs s n q bv)))) σ ρ := by
  have nb : ∀ {c : Addr} {o : HO}, H c = some o → isExt o = false → c ≠ b := fun h1 h2 z => by
    subst z
    rw [hx] at h1
    cases h1
    cases h2
  have st : ∀ c o, H c = some o → isExt o = false → upd H b (.ext (dictP b (putM xs s n q bv))) c = some o := fun c o h1 h2 => by rw [upd_ne (nb h1 h2)]; exact h1
  have ky : ∀ {q s n}, KeyAt K H q s n → KeyAt K (upd H b (.ext (dictP b (putM xs s n q bv)))) q s n := fun h => h.step fun c o h1 _ h3 => by rw [upd_ne (nb h1 h3)]; exact h1
  have ky2 : ∀ {q' s' n'}, KeyAt K H q' s' n' → KeyAt K (upd H b (.ext (dictP b (putM xs s n q bv)))) q' s' n' := fun h => h.step fun c o h1 _ h3 => st c o h1 h3
  refine ⟨e.len, fun c o h => ?_, e.msub, fun c o h => ?_, ⟨fun a' C' dx' fs' h => ?_, e.mem.inj⟩, e.mnew, fun j sl hj => ?_, e.apart⟩
  · by_cases z : c = b
    · subst z
      rw [upd_same]
      rcases e.ent c o h with h1 | ⟨h1, _⟩
      · rw [hx] at h1; cases h1
        exact .inr ⟨rfl, _, rfl, rfl⟩
      · exact .inr ⟨h1, _, rfl, rfl⟩
    · rw [upd_ne z]; exact e.ent c o h
  · obtain ⟨h1, h2⟩ := e.mok c o h
    refine ⟨?_, h2⟩
    refine st c o h1 ?_
    cases o <;> first | rfl | cases h2
  · obtain ⟨w1, w2, w3, b', efs, rows', xs', r', hb', hx', hk'⟩ := e.mem.at_ a' C' dx' fs' h
    refine ⟨w1, w2, w3, b', efs, ?_⟩
    by_cases z : b' = b
    · subst z
      subst efs
      have ea := e.mem.inj _ _ _ _ _ _ _ _ _ _ _ _ _ h ha
      subst ea
      rw [ha] at h
      cases h
      have er := rowsRep_fun (Same.refl _) r' hr
      subst er
      refine ⟨rows', putM xs s n q bv, r', hb', upd_same, fun x hx2 => ?_⟩
      rcases putM_mem hx2 with hx3 | ⟨h1, h2, h3⟩
      · exact ⟨ky2 (hk x hx3).1, (hk x hx3).2⟩
      · obtain ⟨⟨s', n'⟩, q', b2⟩ := x
        cases h1
        refine ⟨?_, by rw [show b2 = bv from h2]; exact hv, hs, hn⟩
        rcases h3 with h3 | ⟨y, hy, ey, eq⟩
        · cases h3; exact ky2 hq
        · have := (hk y hy).1
          rw [ey, eq] at this
          exact ky2 this
    · exact ⟨rows', xs', r', hb', by rw [upd_ne z]; exact hx', fun x hx2 => ⟨ky2 (hk' x hx2).1, (hk' x hx2).2⟩⟩
  · have h := e.slots j sl hj
    cases sl with
    | no => trivial
    | val d => exact h
    | own ds =>
      obtain ⟨l, vs, a1, hl, ml, il, r⟩ := h
      exact ⟨l, vs, a1, st l _ hl rfl, ml, il, r⟩
    | obj z =>
      obtain ⟨v, a1, r⟩ := h
      exact ⟨v, a1, B.mono _ _ _ _ _ _ _ _ r (Same.refl _) (fun a o h n => by rw [h] at n; cases n) fun c o h1 h2 _ => st c o h1 h2⟩
end
end PL

set_option Elab.async false
set_option linter.all false
set_option maxRecDepth 100000
set_option maxHeartbeats 4000000
/-! what is known: asked, stored, told -/
namespace PL
open PySem PySem.Spec PyProof.Rows L2
theorem atM_new {xs : MX} {t : List Int} {n : Nat} (q : Addr) (bv : Bool) (h : atM xs t n = none) : ∃ p, atM (putM xs t n q bv) t n = some (p, .bool bv) := by
  have e : putM xs t n q bv = xs ++ [((t, n), q, bv)] := by
    unfold putM
    rw [h]
    rfl
  refine ⟨q, ?_⟩
  unfold atM atKey at h ⊢
  have h0 := Option.map_eq_none_iff.mp h
  rw [e]
  unfold memX at h0 ⊢
  rw [List.map_append, List.find?_append, h0]
  simp [List.find?]
theorem atM_old {xs : MX} {t : List Int} {n : Nat} (q : Addr) (bv : Bool) (h : (atM xs t n).isSome = true) : ∃ p, atM (putM xs t n q bv) t n = some (p, .bool bv) := by
  have e : putM xs t n q bv = xs.map (fun x => if x.1 = (t, n) then (x.1, x.2.1, bv) else x) := by
    unfold putM
    rw [if_pos h]
  obtain ⟨y, hy⟩ := Option.isSome_iff_exists.mp h
  obtain ⟨x, hx, ex, _⟩ := atM_some hy
  have there : ((memX (putM xs t n q bv)).find? fun x => decide (x.1 = keyN t n)).isSome = true := by
    rw [List.find?_isSome, e]
    refine ⟨(keyN t n, x.2.1, .bool bv), List.mem_map.mpr ⟨(x.1, x.2.1, bv), List.mem_map.mpr ⟨x, hx, by rw [if_pos ex]⟩, by rw [ex]⟩, decide_eq_true rfl⟩
  obtain ⟨z, hz⟩ := Option.isSome_iff_exists.mp there
  have e2 : atM (putM xs t n q bv) t n = some z.2 := by unfold atM atKey; rw [hz]; rfl
  obtain ⟨u, hu, eu, e3⟩ := atM_some e2
  rw [e] at hu
  obtain ⟨u0, _, rfl⟩ := List.mem_map.mp hu
  refine ⟨z.2.1, ?_⟩
  rw [e2, e3]
  by_cases hc : u0.1 = (t, n)
  · rw [if_pos hc]
  · rw [if_neg hc] at eu
    exact absurd eu hc
theorem atM_put {xs : MX} {t : List Int} {n : Nat} (q : Addr) (bv : Bool) : ∃ p, atM (putM xs t n q bv) t n = some (p, .bool bv) := by
  cases h : atM xs t n with
  | none => exact atM_new q bv h
  | some p => exact atM_old q bv (by rw [h]; rfl)
section
variable {B : ObjB} {X : Cx} {c : Ctx B}
theorem dss_memo {ek1 ek2 ek3 ed1 ed2 ed3 E : Expr} {f : Env B → R D} {is isome inum : Nat} {p1 p2 p3 p4 p5 p6 : Pos} (hK : c.K = X.K) (hu : X.A.units + 65 < cLine) (Fc : Cls X.K (clsS X.K)) (n4 : NoAttr X.K (clsS X.K) "known")
    (k1 : PE X ek1 (tKey isome inum)) (k2 : PE X ek2 (tKey isome inum)) (k3 : PE X ek3 (tKey isome inum)) (o1 : PE X ed1 (tKn X.K is)) (o2 : PE X ed2 (tKn X.K is)) (o3 : PE X ed3 (tKn X.K is)) (hE : DE X c E f)
    (m1 : behindInMarks .NotIn ed1 = false := by rfl) (hsl : NoSl ek3 := by intro _ _; rfl)
    (ha : ∀ v, assign (.Subscript ed2 ek2 p2) X.env v = (do
      let ov ← holding [v] (eval ed2 X.env)
      let iv ← holding [v, ov] (eval ek2 X.env)
      standAt p2
      holding [v, ov, iv] (setItem ov iv v)
      release [v, ov, iv] []) := by intro _; rfl)
    (hs : swapsWithSole [.Subscript ed2 ek2 p2] E p3.line X.env = pure false := by rfl) (hw : swappedStores [.Subscript ed2 ek2 p2] E X.env = pure none := by rfl)
    (h1 : (assignEach [.Subscript ed2 ek2 p2] X.env).map (·.2) = [assign (.Subscript ed2 ek2 p2) X.env] := by rfl) :
    DSs X c [.If (.Compare ek1 [.NotIn] [ed1] p1) [.Assign [.Subscript ed2 ek2 p2] E p3] [] p4, .Return (some (.Subscript ed3 ek3 p5)) p6] (gMemo is isome inum f) := by
  refine ⟨PSs.imp (pss_cons (ps_if (pt_cmpR (op_notInM hu) k1 o1 m1) (pss_one (ps_asg hE.pe (pg_sub o2 k2 (set_M hu) ha) hs hw h1)) pss_nil) (pss_one (ps_ret (pe_getM hu o3 k3 hsl)))) fun Dn σ H ⟨I, M, ρ, e, q⟩ => ?_⟩
  unfold gMemo at q
  split at q
  case h_2 => exact q.elim
  rename_i d1 d2 rd sd nn hi hs' hn
  split at q
  case h_2 => exact q.elim
  rename_i rows s hr hsd
  split at q
  case isFalse => exact q.elim
  rename_i hc
  obtain ⟨n0, n20, hsub⟩ := hc
  obtain ⟨n, rfl⟩ : ∃ n : Nat, nn = (n : Int) := ⟨nn.toNat, by omega⟩
  rw [Int.toNat_natCast] at q
  have n20' : n < 20 := by omega
  -- what comes
  obtain ⟨hf, hp⟩ : f ρ = .ok (.bool (fitI rows n s)) ∧ PostS c I M Dn (.rt (.bool (fitI rows n s)), ρ) := by
    cases hfr : f ρ with
    | ok d =>
      rw [hfr] at q
      cases d with
      | bool b =>
        dsimp only [R.bind] at q
        split at q
        · rename_i hb; rw [← hb]; exact ⟨rfl, q⟩
        · exact q.elim
      | _ => exact q.elim
    | exc m => rw [hfr] at q; exact q.elim
    | stuck => rw [hfr] at q; exact q.elim
  obtain ⟨vself, es, rs⟩ := e.slots is _ hi
  obtain ⟨a, dx, b, v1, v2, v3, rfl, hM, r1, r2, r3⟩ := Rep.self rs
  rw [rowsOf_eq hr] at r3
  obtain ⟨vsome, esome, rsome⟩ := e.slots isome _ hs'
  obtain ⟨vnum, enum, rnum⟩ := e.slots inum _ hn
  cases rnum
  obtain ⟨p, rfl, hps⟩ : ∃ p, vsome = .ref p ∧ SqT c.K M p (s.map V.int) := by
    cases rsome with
    | tup h r =>
      rw [intsOf_eq hsd] at r
      rw [r.ints] at h
      exact ⟨_, rfl, h⟩
  -- the dict at any time
  have memo : ∀ {M' H' : Hp}, EnvR c.K I M' H' σ ρ → Same M M' → ∃ xs, (b == sysModules) = false ∧ H' b = some (.ext (dictP b xs)) ∧ ∀ x ∈ xs, KeyAt c.K H' x.2.1 x.1.1 x.1.2 ∧ x.2.2 = fitI rows x.1.2 x.1.1 ∧ x.1.1 ∈ subs12 ∧ x.1.2 < 20 := fun {M' H'} e' sm => by
    obtain ⟨w1, w2, w3, b', efs, rows', xs', r', hb', hx', hk'⟩ := e'.mem.at_ a _ dx _ (sm _ _ hM)
    cases efs
    have er := rowsRep_fun sm r3 r'
    subst er
    exact ⟨xs', hb', hx', hk'⟩
  have key : ∀ {M' H' : Hp}, EnvR c.K I M' H' σ ρ → Same M M' → ∀ q', H' q' = none → KeyAt c.K (upd H' q' (.tup [.ref p, .int n])) q' s n := fun {M' H'} e' sm q' hq' => by
    refine ⟨p, SqT.of upd_same, sqT_same (Same.trans ?_ (upd_same_of hq')) hps⟩
    exact sm.trans e'.mok.same
  have gr : ∀ {M' H' : Hp} (e' : EnvR c.K I M' H' σ ρ) (q' : Addr), H' q' = none → EnvR c.K I (upd M' q' (.tup [.ref p, .int n])) (upd H' q' (.tup [.ref p, .int n])) σ ρ ∧ Same M' (upd M' q' (.tup [.ref p, .int n])) := fun {M' H'} e' q' hq' =>
    ⟨e'.grow (Grow.alloc e'.mok hq' rfl), upd_same_of (e'.mok.free hq')⟩
  have two : ([.ref p, .int n] : List V).length ≤ sizeLine := by show 2 ≤ sizeLine; decide
  have lk : (fldsS v1 v2 v3 (.ref b)).lookup ("known" : Str) = some (V.ref b) := rfl
  have insH : ∀ {M' H' : Hp}, EnvR c.K I M' H' σ ρ → Same M M' → H' a = some (.ins (clsS X.K) dx (fldsS v1 v2 v3 (.ref b))) := fun e' sm => hK ▸ (e'.mok a _ (sm _ _ hM)).1
  -- the answer
  have tell : ∀ {M' H' : Hp} {xs : MX}, EnvR c.K I M' H' σ ρ → Same M M' → H' b = some (.ext (dictP b xs)) → (∀ x ∈ xs, KeyAt c.K H' x.2.1 x.1.1 x.1.2) → (∃ p', atM xs s n = some (p', .bool (fitI rows n s))) →
      (tOp (rGetM X.K) (tKn X.K is) (tKey isome inum)) σ H' Dn.rt := fun {M' H' xs} e' sm hx hk ⟨p', hat⟩ => by
    refine ⟨.ref a, es, a, _, dx, _, _, rfl, insH e' sm, Fc, n4, lk, _, esome, _, enum, two, fun q3 hq3 => ?_⟩
    obtain ⟨e3, s3⟩ := gr e' q3 hq3
    have nb : b ≠ q3 := fun z => by subst z; rw [hx] at hq3; cases hq3
    refine ⟨q3, s, n, b, xs, p', fitI rows n s, rfl, rfl, hK ▸ key e' sm q3 hq3, by rw [upd_ne nb]; exact hx, fun x hx' => hK ▸ (hk x hx').step fun c' o h1 _ _ => upd_same_of hq3 _ _ h1, hat, ?_⟩
    exact hp _ σ _ _ (sm.trans s3) e3 (.bl _)
  refine ⟨_, esome, _, enum, two, fun q1 hq1 => ?_⟩
  obtain ⟨e1', s1'⟩ := gr e q1 hq1
  refine ⟨.ref a, es, a, _, dx, _, _, rfl, insH e1' s1', Fc, n4, lk, ?_⟩
  obtain ⟨xs1, hb1, hx1, hk1⟩ := memo e1' s1'
  refine ⟨q1, s, n, b, xs1, rfl, rfl, hK ▸ key e (Same.refl _) q1 hq1, hb1, hx1, fun x hx => hK ▸ (hk1 x hx).1, _, rfl, ?_⟩
  cases hat : atM xs1 s n with
  | some pv =>
    rw [show (!(some pv : Option (Addr × Value)).isSome) = false from rfl, if_neg Bool.false_ne_true]
    obtain ⟨x, hx, ex, epv⟩ := atM_some hat
    have hv := (hk1 x hx).2.1
    rw [ex] at hv
    refine tell e1' s1' hx1 (fun x hx => (hk1 x hx).1) ⟨x.2.1, ?_⟩
    rw [hat, epv, hv]
  | none =>
    rw [show (!(none : Option (Addr × Value)).isSome) = true from rfl, if_pos rfl]
    refine ⟨I, _, ρ, e1', RD.of_ok hf fun v2' H2 M2 k2' e2' rv2 => ?_⟩
    cases rv2
    have s2' := s1'.trans k2'.m
    refine ⟨.ref a, es, a, _, dx, _, _, rfl, insH e2' s2', Fc, n4, lk, _, esome, _, enum, two, fun q2 hq2 => ?_⟩
    obtain ⟨e3, s3⟩ := gr e2' q2 hq2
    have s23 := s2'.trans s3
    obtain ⟨xs3, hb3, hx3, hk3⟩ := memo e3 s23
    have kq := key e2' s2' q2 hq2
    refine ⟨q2, s, n, b, xs3, fitI rows n s, rfl, rfl, rfl, hK ▸ kq, hx3, fun x hx => ⟨hK ▸ (hk3 x hx).1, (hk3 x hx).2.2⟩, ?_⟩
    have e4 := e3.memo (s23 _ _ hM) (r3.same s23) hb3 hx3 hk3 kq rfl hsub n20'
    have ky : ∀ {q s' n'}, KeyAt c.K (upd H2 q2 (.tup [.ref p, .int n])) q s' n' → KeyAt c.K (upd (upd H2 q2 (.tup [.ref p, .int n])) b (.ext (dictP b (putM xs3 s n q2 (fitI rows n s))))) q s' n' := fun h => h.step fun c' o h1 _ h3 => by
      have nb : c' ≠ b := fun z => by subst z; rw [hx3] at h1; cases h1; cases h3
      rw [upd_ne nb]
      exact h1
    refine tell e4 s23 upd_same (fun x hx => ?_) (atM_put q2 _)
    rcases putM_mem hx with hx | ⟨ex, _, hx⟩
    · exact ky (hk3 x hx).1
    · rw [ex]
      rcases hx with hx | ⟨y, hy, ey, eq⟩
      · rw [hx]; exact ky kq
      · have := (hk3 y hy).1
        rw [ey, eq] at this
        exact ky this
end
end PL

set_option Elab.async false
set_option linter.all false
set_option maxRecDepth 100000
set_option maxHeartbeats 4000000
/-! Search(many, cases) -/
namespace PL
open PySem PySem.Spec PyProof.Rows L2
/-! tuple(range(n)) -/
section
variable {B : ObjB} {X : Cx} {c : Ctx B} {pos : Pos}
def eTupRange (f : Env B → R D) : Env B → R D := fun ρ => (f ρ).bind fun x => match x with
  | .int j => if -100000 ≤ j ∧ j ≤ 100000 then .ok (.tuple (rangeD 0 j)) else .stuck
  | _ => .stuck
theorem de_tupRange {a : Expr} {f : Env B → R D} {p p2 q : Pos} {k : Nat} (G : Good X c k) (hm : X.mg "tuple" = none) (hm2 : X.mg "range" = none) (ha : DE X c a f) (hg : Gl X "tuple" := by rfl) (hg2 : Gl X "range" := by rfl)
    (na : starEach [a] X.env = (false, eval a X.env) :: starEach [] X.env := by rfl) (he : starEach [.Call (.Name "range" p2) [a] [] q] X.env = (false, eval (.Call (.Name "range" p2) [a] [] q) X.env) :: starEach [] X.env := by rfl) :
    DE X c (.Call (.Name "tuple" p) [.Call (.Name "range" p2) [a] [] q] [] pos) (eTupRange f) := by
  refine ⟨PE.imp (pe_tupRg G.calm hg hm (prg_1 hg2 hm2 ha.pe na) he) fun σ H Q ⟨I, M, ρ, e, q⟩ => ?_⟩
  refine ⟨I, M, ρ, e, q.bind.mono fun x hx v H1 M1 k1 e1 r1 => ?_⟩
  split at hx
  · rename_i j
    split at hx
    · rename_i hb
      cases r1
      refine ⟨j, rfl, ⟨by omega, by omega, by omega, by omega, by omega⟩, fun p hp => ?_⟩
      have g := Grow.alloc e1.mok hp (o := .tup (rgV 0 j)) rfl
      exact hx _ _ _ (k1.trans (.of g)) (e1.grow g) (.newT (e1.mok.free hp) reps_rg)
    · exact hx.elim
  · exact hx.elim
end
/-! ### __init__ -/
def selfRep (K : PySem.W.Frag) (I : Ent) (M H : Hp) (v : V) (z : D) : Prop := ∃ a C dx fs vp, v = .ref a ∧ H a = some (.ins C dx fs) ∧ C = clsS K ∧ fs.lookup ("pans" : Str) = some vp ∧ Rep K M vp z ∧ I.H a ≠ none
def selfB : ObjB := ⟨D, selfRep, fun K I M H M' H' v z ⟨a, C, dx, fs, vp, e, h, hc, l, r, n⟩ s _ k => ⟨a, C, dx, fs, vp, e, k a _ h rfl (.inr n), hc, l, r.same s, n⟩⟩
abbrev selfDat (d : D) : selfB.Dat := d
section
variable {X : Cx} {c : Ctx selfB} {pos : Pos}
def ePans (i : Nat) : Env selfB → R D := fun ρ => match ρ[i]? with
  | some (.obj (z : D)) => .ok z
  | _ => .stuck
theorem de_pans {i : Nat} {e : Expr} (hK : c.K = X.K) (F : Cls X.K (clsS X.K)) (n : NoAttr X.K (clsS X.K) "pans") (h : PE X e (tVar i)) (hb : attributeBase e "pans" X.env (eval e X.env) = eval e X.env := by rfl) : DE X c (.Attribute e "pans" pos) (ePans i) := by
  refine ⟨PE.imp (pe_fld h hb) fun σ H Q ⟨I, M, ρ, e, q⟩ => ?_⟩
  unfold ePans at q
  split at q
  · rename_i z hi
    obtain ⟨v, ev, a, C, dx, fs, vp, rfl, ha, hc, hl, r, _⟩ := e.slots i _ hi
    subst hc
    exact ⟨_, ev, a, clsS c.K, dx, fs, vp, rfl, ha, hK ▸ F, hK ▸ n, hl, q _ H M .refl e r⟩
  · exact q.elim
end
section
variable {K : PySem.W.Frag} {M M' H H' : Hp}
theorem sqT_stepI (k : ∀ a o, H a = some o → isIns o = false → H' a = some o) {a : Addr} {xs : List V} (h : SqT K H a xs) : SqT K H' a xs := by
  rcases h with (h | ⟨o, h⟩) | h
  · exact .inl (.inl (k _ _ h rfl))
  · exact .inl (.inr ⟨o, k _ _ h rfl⟩)
  · exact .inr h
theorem MemOk.stepI (m : MemOk K M H) (k : ∀ a o, H a = some o → isIns o = false → H' a = some o) : MemOk K M H' := by
  refine ⟨fun a C dx fs h => ?_, m.inj⟩
  obtain ⟨v1, v2, v3, b, e, rows, xs, r, hb, hx, hk⟩ := m.at_ a C dx fs h
  refine ⟨v1, v2, v3, b, e, rows, xs, r, hb, k _ _ hx rfl, fun x hx => ⟨?_, (hk x hx).2⟩⟩
  obtain ⟨p, h1, h2⟩ := (hk x hx).1
  exact ⟨p, sqT_stepI k h1, sqT_stepI k h2⟩
/-- the instance that is made -/
theorem MOkT.put (m : MOkT K M H) {x C dx : Addr} {fs fs' : List (Str × V)} (h : H x = some (.ins C dx fs)) (n : M x = none) : MOkT K M (upd H x (.ins C dx fs')) := by
  refine ⟨fun a o ha => ?_, m.mem.stepI fun a o ha hi => ?_⟩
  · have z : a ≠ x := fun z => by subst z; rw [n] at ha; cases ha
    rw [upd_ne z]; exact m.ok a o ha
  · have z : a ≠ x := fun z => by subst z; rw [h] at ha; cases ha; cases hi
    rw [upd_ne z]; exact ha
def initE (N : Nat) (s0 : Slot selfB) (dm dc : D) : Env selfB := s0 :: .val dm :: .val dc :: List.replicate (N - 3) .no
theorem init_env {N : List Str} (hN : 3 ≤ N.length) (m : MOkT K M H) {x : Addr} {vm vc : V} {dm dc : D} (rm : Rep K M vm dm) (rc : Rep K M vc dc) {s0 : Slot selfB} (h0 : SlotR K ⟨M, H, false⟩ M H (some (some (.ref x))) s0) (no : ∀ ds, s0 ≠ .own ds) :
    EnvR K ⟨M, H, false⟩ M H (L2.start N [.ref x, vm, vc]) (initE N.length s0 dm dc) where
  len := by unfold L2.start initE; simp
  ent := .refl
  msub := Same.refl _
  mok := m.ok
  mem := m.mem
  mnew := fun a o h n => by
    have n' : M a = none := n
    rw [h] at n'; cases n'
  slots := fun i s h => by
    match i, h with
    | 0, h => cases h; exact h0
    | 1, h => cases h; exact ⟨vm, rfl, rm⟩
    | 2, h => cases h; exact ⟨vc, rfl, rc⟩
    | i + 3, h =>
      have h' : (List.replicate (N.length - 3) (Slot.no : Slot selfB))[i]? = some s := h
      rw [List.getElem?_replicate] at h'
      split at h' <;> cases h'
      trivial
  apart := fun i j ds es hne h1 h2 => by
    match i, h1 with
    | 0, h1 => cases h1; exact absurd rfl (no ds)
    | 1, h1 => cases h1
    | 2, h1 => cases h1
    | i + 3, h1 =>
      have h' : (List.replicate (N.length - 3) (Slot.no : Slot selfB))[i]? = some (.own ds) := h1
      rw [List.getElem?_replicate] at h'
      split at h' <;> cases h'
end
/-- what __init__ promises -/
def spInit (K : PySem.W.Frag) (N : Nat) (f2 : Env selfB → R D) (f3 : Env selfB → R (List D)) : Sp := fun vs H Q E => vs.length = 3 ∧ ∃ x dx vm vc M dm dc d2 ds3, vs = [.ref x, vm, vc] ∧ H x = some (.ins (clsS K) dx []) ∧ M x = none ∧ MOkT K M H ∧ Rep K M vm dm ∧ Rep K M vc dc ∧
  f2 (initE N .no dm dc) = .ok d2 ∧ f3 (initE N (.obj (selfDat d2)) dm dc) = .ok ds3 ∧
  ∀ H' M' v2 v3 p, (∀ a o, H a = some o → a ≠ x → H' a = some o ∨ (isExt o = true ∧ ∃ o', H' a = some o' ∧ isExt o' = true)) → H' x = some (.ins (clsS K) dx (fldsS vc v2 v3 (.ref p))) → Same M M' → MOkT K M' H' → (∀ a o, M' a = some o → M a = none → H a = none) → M' x = none →
    Rep K M' v2 d2 → Rep K M' v3 (.list ds3) → H' p = some (.ext (dictP p [])) → H p = none → (p == sysModules) = false →
    (∀ a C dx v1 v2 v3, M' a ≠ some (.ins C dx (fldsS v1 v2 v3 (.ref p)))) → Q .non H'
section
variable {P : Program} {w : World} {K : PySem.W.Frag} {mg : Str → Option Value} {base : Heap} {cA : Nat → Addr}
theorem init_ok {x qual : Str} {params : Arguments} {scope : Scope} {kws : List (Str × V)} {f : Addr} {fd : FuncData} {N ps : List Str} {k : Nat} {f2 : Env selfB → R D} {f3 : Env selfB → R (List D)} {s1 s2 s3 s4 x1 x2 x3 : Expr} {a1 a2 a3 a4 p1 p2 p3 p4 p5 : Pos}
    (FD : FunD K x qual params [.Assign [.Attribute s1 "cases" a1] x1 p1, .Assign [.Attribute s2 "pans" a2] x2 p2, .Assign [.Attribute s3 "rows" a3] x3 p3, .Assign [.Attribute s4 "known" a4] (.Dict [] [] p5) p4] scope [] kws f fd) (S : FnScope N ps scope) (hl3 : ps.length = 3) (hN : 3 ≤ N.length)
    (Fc : Cls K (clsS K)) (n1 : NoAttr K (clsS K) "cases") (n2 : NoAttr K (clsS K) "pans") (n3 : NoAttr K (clsS K) "rows") (n4 : NoAttr K (clsS K) "known")
    (h : ∀ (cdv : Value) (A : Around) (outer : List PySem.Env) (s : Shared) (H : Hp) (E : XK), GoodS (B := selfB) (bodyC P w K mg base N qual scope f cdv A outer s H E) ⟨K, cA, E⟩ k →
      PE (bodyC P w K mg base N qual scope f cdv A outer s H E) s1 (tVar 0) ∧ PE (bodyC P w K mg base N qual scope f cdv A outer s H E) s2 (tVar 0) ∧ PE (bodyC P w K mg base N qual scope f cdv A outer s H E) s3 (tVar 0) ∧ PE (bodyC P w K mg base N qual scope f cdv A outer s H E) s4 (tVar 0) ∧
      PE (bodyC P w K mg base N qual scope f cdv A outer s H E) x1 (tVar 2) ∧ DE (bodyC P w K mg base N qual scope f cdv A outer s H E) ⟨K, cA, E⟩ x2 f2 ∧ DL (bodyC P w K mg base N qual scope f cdv A outer s H E) ⟨K, cA, E⟩ x3 f3)
    (w1 : ∀ (cdv : Value) (A : Around) (outer : List PySem.Env) (s : Shared) (H : Hp) (E : XK), swapsWith x1 (some (.Attribute s1 "cases" a1)) p1.line (bodyC P w K mg base N qual scope f cdv A outer s H E).env = pure false ∧ swapsWith x2 (some (.Attribute s2 "pans" a2)) p2.line (bodyC P w K mg base N qual scope f cdv A outer s H E).env = pure false ∧
      swapsWith x3 (some (.Attribute s3 "rows" a3)) p3.line (bodyC P w K mg base N qual scope f cdv A outer s H E).env = pure false ∧ swapsWith (.Dict [] [] p5) (some (.Attribute s4 "known" a4)) p4.line (bodyC P w K mg base N qual scope f cdv A outer s H E).env = pure false) :
    FnOk P w K mg base (L2N.CX P w) (k + 1) f fd ps (spInit K N.length f2 f3) := by
  refine FD.ok S (fun vs H Q E h => h.1.trans hl3.symm) (fun cdv A outer s H vs Q E hr ⟨hl, y, dx, vm, vc, M, dm, dc, d2, ds3, ev, hx, nx, mk, rm, rc, hf2, hf3, hq⟩ => ?_)
  subst ev
  have G := good_body (cA := cA) (B := selfB) (P := P) (w := w) (K := K) (mg := mg) (base := base) (qual := qual) (f := f) (cd := cdv) (outer := outer) (s := s) (H := H) (E := E) S.nd hr
  obtain ⟨e1', e2', e3', e4', ex1, ex2, ex3⟩ := h cdv A outer s H E G
  obtain ⟨sw1, sw2, sw3, sw4⟩ := w1 cdv A outer s H E
  refine ⟨_, pss_cons (ps_fld e1' ex1 sw1) (pss_cons (ps_fld e2' ex2.pe sw2) (pss_cons (ps_fld e3' ex3.pe sw3) (pss_one (ps_fld e4' pe_newM sw4)))), ?_⟩
  have st0 : (L2.start N [.ref y, vm, vc])[0]? = some (some (.ref y)) := rfl
  have st2 : (L2.start N [.ref y, vm, vc])[2]? = some (some vc) := rfl
  -- self.cases
  refine ⟨vc, st2, .ref y, st0, y, _, dx, _, rfl, hx, Fc, n1, by decide, ?_⟩
  have mk1 := mk.put (fs' := putF "cases" vc []) hx nx
  -- self.pans
  refine ⟨⟨M, _, false⟩, M, _, init_env hN mk1 rm rc (s0 := .no) trivial (fun _ => by simp), RD.of_ok hf2 fun v2 H2 M2 k2 e2 r2 => ?_⟩
  have hx2 : H2 y = some (.ins (clsS K) dx (putF "cases" vc [])) := k2.k.at upd_same rfl
  have nx2 : M2 y = none := by
    cases z : M2 y with
    | none => rfl
    | some o => have := k2.new y o z nx; rw [upd_same] at this; cases this
  refine ⟨.ref y, st0, y, _, dx, _, rfl, hx2, Fc, n2, by show 1 < 1000; decide, ?_⟩
  have mk2 := e2.okT.put (fs' := putF "pans" v2 (putF "cases" vc [])) hx2 nx2
  -- self.rows
  refine ⟨⟨M2, _, false⟩, M2, _, init_env hN mk2 (rm.same k2.m) (rc.same k2.m) (s0 := .obj (selfDat d2)) ⟨.ref y, rfl, y, _, dx, _, v2, rfl, upd_same, rfl, rfl, r2, by show upd H2 y _ y ≠ none; rw [upd_same]; simp⟩ (fun _ => by simp), RD.of_ok hf3 fun l vs3 H3 M3 k3 e3 hl3 ml3 nl3 r3 => ?_⟩
  have hx3 : H3 y = some (.ins (clsS K) dx (putF "pans" v2 (putF "cases" vc []))) := k3.k.at upd_same rfl
  have nx3 : M3 y = none := by
    cases z : M3 y with
    | none => rfl
    | some o => have := k3.new y o z nx2; rw [upd_same] at this; cases this
  have ne : l ≠ y := fun z => by subst z; rw [hl3] at hx3; cases hx3
  refine ⟨.ref y, st0, y, _, dx, _, rfl, hx3, Fc, n3, by show 2 < 1000; decide, ?_⟩
  have mk3 := e3.okT.put (fs' := putF "rows" (.ref l) (putF "pans" v2 (putF "cases" vc []))) hx3 nx3
  -- self.known
  refine fun p hp hsys => ⟨.ref y, st0, y, _, dx, putF "rows" (.ref l) (putF "pans" v2 (putF "cases" vc [])), rfl, ?_, Fc, n4, by show 3 < 1000; decide, ?_⟩
  · have z : y ≠ p := fun z => by subst z; rw [upd_same] at hp; cases hp
    rw [upd_ne z, upd_same]
  have yp : y ≠ p := fun z => by subst z; rw [upd_same] at hp; cases hp
  have hp3 : H3 p = none := by rw [upd_ne (Ne.symm yp)] at hp; exact hp
  have hp2 : H2 p = none := by have := k3.k.free hp3; rw [upd_ne (Ne.symm yp)] at this; exact this
  have hp1 : H p = none := by have := k2.k.free hp2; rw [upd_ne (Ne.symm yp)] at this; exact this
  have lp : l ≠ p := fun z => by subst z; rw [hl3] at hp3; cases hp3
  refine hq _ (upd M3 l (.lst vs3)) v2 (.ref l) p (fun a o h ha => ?_) (by rw [upd_same]; rfl) (k2.m.trans (k3.m.trans (upd_same_of ml3))) ⟨fun a o h => ?_, ?_⟩ (fun a o h n => ?_) (by rw [upd_ne (Ne.symm ne)]; exact nx3) (r2.same (k3.m.trans (upd_same_of ml3))) (.newL ml3 r3) (by rw [upd_ne (Ne.symm yp), upd_same]) hp1 hsys fun a C dx' w1 w2 w3 h => ?_
  · have zp : a ≠ p := fun z => by subst z; rw [hp1] at h; cases h
    have s1 : upd H y (HO.ins (clsS K) dx (putF "cases" vc [])) a = some o := by rw [upd_ne ha]; exact h
    have s2 := k2.k a o s1
    have s3 : ∀ {o'}, H2 a = some o' → H3 a = some o' ∨ (isExt o' = true ∧ ∃ o'', H3 a = some o'' ∧ isExt o'' = true) := fun h2 => k3.k a _ (by rw [upd_ne ha]; exact h2)
    rw [upd_ne ha, upd_ne zp, upd_ne ha]
    rcases s2 with s2 | ⟨i1, o2, h2, i2⟩
    · exact s3 s2
    · rcases s3 h2 with h3 | ⟨_, o3, h3, i3⟩
      · exact .inr ⟨i1, o2, h3, i2⟩
      · exact .inr ⟨i1, o3, h3, i3⟩
  · by_cases zl : a = l
    · subst zl
      rw [upd_same] at h
      cases h
      rw [upd_ne ne, upd_ne lp, upd_ne ne]
      exact ⟨hl3, rfl⟩
    · rw [upd_ne zl] at h
      have zy : a ≠ y := fun z => by subst z; rw [nx3] at h; cases h
      have zp : a ≠ p := fun z => by subst z; have := (e3.mok a o h).1; rw [hp3] at this; cases this
      rw [upd_ne zy, upd_ne zp, upd_ne zy]
      exact e3.mok a o h
  · refine MemOk.up (M := M3) ?_ (upd_same_of ml3) fun a o h n => ?_
    · refine e3.mem.stepI fun a o h hi => ?_
      have zy : a ≠ y := fun z => by subst z; rw [hx3] at h; cases h; cases hi
      have zp : a ≠ p := fun z => by subst z; rw [hp3] at h; cases h
      rw [upd_ne zy, upd_ne zp, upd_ne zy]
      exact h
    · by_cases zl : a = l
      · subst zl; rw [upd_same] at h; cases h; rfl
      · rw [upd_ne zl, n] at h; cases h
  · by_cases zl : a = l
    · subst zl
      have := k2.k.free (by have := nl3; rw [upd_ne ne] at this; exact this)
      rw [upd_ne ne] at this
      exact this
    · rw [upd_ne zl] at h
      have zy : a ≠ y := fun z => by subst z; rw [nx3] at h; cases h
      cases q2 : M2 a with
      | none =>
        have := k3.new a o h q2
        rw [upd_ne zy] at this
        have := k2.k.free this
        rw [upd_ne zy] at this
        exact this
      | some o2 =>
        have := k2.new a o2 q2 n
        rw [upd_ne zy] at this
        exact this
  · have zl : a ≠ l := fun z => by subst z; rw [upd_same] at h; cases h
    rw [upd_ne zl] at h
    obtain ⟨u1, u2, u3, b, ef, rows, xs, _, _, hb, _⟩ := e3.mem.at_ _ _ _ _ h
    cases ef
    rw [hp3] at hb
    cases hb
end
end PL

set_option Elab.async false
set_option linter.all false
set_option maxRecDepth 100000
set_option maxHeartbeats 4000000
/-! Search(many, cases): the call -/
namespace PL
open PySem PySem.Spec PyProof.Rows L2
def newD (N : Nat) (f2 : Env selfB → R D) (f3 : Env selfB → R (List D)) : List D → R D
  | [dm, dc] => (f2 (initE N .no dm dc)).bind fun d2 => (f3 (initE N (.obj (selfDat d2)) dm dc)).bind fun ds3 => match rowsOf ds3 with
    | some _ => .ok (selfD dc d2 (.list ds3))
    | none => .stuck
  | _ => .stuck
structure InitF (P : Program) (w : World) (K : PySem.W.Frag) (mg : Str → Option Value) (base : Heap) (f : Addr) (j N : Nat) (f2 : Env selfB → R D) (f3 : Env selfB → R (List D)) : Prop where
  ex : ∃ fd ps, FnOk P w K mg base (L2N.CX P w) j f fd ps (spInit K N f2 f3) ∧ Binds K fd ps []
section
variable {B : ObjB} {X : Cx} {c : Ctx B} {pos : Pos}
theorem de_make {e : Expr} {es : List Expr} {fa : Env B → R (List D)} {k j N : Nat} {f : Addr} {f2 : Env selfB → R D} {f3 : Env selfB → R (List D)} {p : Pos} (G : Good X c k) (Mc : Mk X.K (clsS X.K) f) (d : InitF X.prog X.w X.K X.mg X.base f j N f2 f3) (hj : j + 1 ≤ k)
    (hm : X.mg "Search" = some (.ref (clsS X.K))) (ha : DA X c (e :: es) fa) (hg : Gl X "Search" := by rfl)
    (he : starEach (e :: es) X.env = (false, eval e X.env) :: starEach es X.env := by rfl) (hpl : (backTo pos (starEach es X.env)).any (·.1) = false := by rfl) :
    DE X c (.Call (.Name "Search" p) (e :: es) [] pos) (eCall 2 (newD N f2 f3) fa) := by
  obtain ⟨fd, ps, F, hb⟩ := d.ex
  refine ⟨PE.imp (pe_make Mc F (G.room.mono hj) hg hm hb .nil G.pass ha.pa (by decide) he hpl) fun σ H Q ⟨I, M, ρ, e, q⟩ => ?_⟩
  refine ⟨I, M, ρ, e, q.bind.mono fun ds hx vs H1 M1 k1 e1 r1 => fun y dx hy hdx hne => ?_⟩
  split at hx
  case isFalse => exact hx.elim
  obtain ⟨dm, dc, rfl⟩ : ∃ dm dc, ds = [dm, dc] := by
    match ds, ‹ds.length = 2› with
    | [a, b], _ => exact ⟨a, b, rfl⟩
  obtain ⟨vm, vc, rfl, rm, rc⟩ : ∃ vm vc, vs = [vm, vc] ∧ Rep c.K M1 vm dm ∧ Rep c.K M1 vc dc := by
    cases r1 with
    | cons rm rr =>
      cases rr with
      | cons rc rr =>
        cases rr
        exact ⟨_, _, rfl, rm, rc⟩
  unfold newD at hx
  dsimp only at hx
  cases hf2 : f2 (initE N .no dm dc) with
  | exc n => rw [hf2] at hx; exact hx.elim
  | stuck => rw [hf2] at hx; exact hx.elim
  | ok d2 =>
    rw [hf2] at hx
    cases hf3 : f3 (initE N (.obj (selfDat d2)) dm dc) with
    | exc n => dsimp only [R.bind] at hx; rw [hf3] at hx; exact hx.elim
    | stuck => dsimp only [R.bind] at hx; rw [hf3] at hx; exact hx.elim
    | ok ds3 =>
      dsimp only [R.bind] at hx
      rw [hf3] at hx
      dsimp only [R.bind] at hx
      cases hr : rowsOf ds3 with
      | none => rw [hr] at hx; exact hx.elim
      | some rows =>
        rw [hr] at hx
        have hp : Post c I M H σ ρ Q (selfD dc d2 (.list ds3)) := hx
        have sm0 : Same H1 (upd (upd H1 dx (.own y)) y (.ins (clsS X.K) dx [])) := (upd_same_of hdx).trans (upd_same_of (by rw [upd_ne (Ne.symm hne)]; exact hy))
        have eK := G.K
        have my : M1 y = none := e1.mok.free hy
        have mkT : MOkT c.K M1 (upd (upd H1 dx (.own y)) y (.ins (clsS X.K) dx [])) := ⟨fun a o h => ⟨sm0 _ _ (e1.mok a o h).1, (e1.mok a o h).2⟩, e1.mem.same sm0⟩
        refine ⟨rfl, y, dx, vm, vc, M1, dm, dc, d2, ds3, rfl, upd_same, my, eK ▸ mkT, eK ▸ rm, eK ▸ rc, hf2, hf3, fun H' M' v2 v3 p hk hx' sm mk' new ny r2 r3 hpp hpn hsys hno => ⟨rfl, ?_⟩⟩
        rw [← eK] at hx' mk' r2 r3
        have sM : Same M' (upd M' y (.ins (clsS c.K) dx (fldsS vc v2 v3 (.ref p)))) := upd_same_of ny
        have zp : p ≠ y := fun z => by subst z; rw [upd_same] at hpn; cases hpn
        have zpd : p ≠ dx := fun z => by subst z; rw [upd_ne zp, upd_same] at hpn; cases hpn
        have hp1 : H1 p = none := by rw [upd_ne zp, upd_ne zpd] at hpn; exact hpn
        have notP : ∀ a C dx' w1 w2 w3, M' a = some (.ins C dx' (fldsS w1 w2 w3 (.ref p))) → False := fun a C dx' w1 w2 w3 h => hno a C dx' w1 w2 w3 h
        have g : GrowT c.K M1 H1 (upd M' y (.ins (clsS c.K) dx (fldsS vc v2 v3 (.ref p)))) H' := by
          refine ⟨fun a o h => ?_, sm.trans sM, fun a o h => ?_, fun a o h n => ?_, ⟨fun a C dx' fs h => ?_, fun a a' C C' d d' w1 w2 w3 w1' w2' w3' b h h' => ?_⟩⟩
          · have zy : a ≠ y := fun z => by subst z; rw [hy] at h; cases h
            exact hk a o (sm0 _ _ h) zy
          · by_cases zy : a = y
            · subst zy; rw [upd_same] at h; cases h; exact ⟨hx', rfl⟩
            · rw [upd_ne zy] at h; exact mk'.ok a o h
          · by_cases zy : a = y
            · subst zy; exact hy
            · rw [upd_ne zy] at h
              have := new a o h n
              rw [upd_ne zy] at this
              by_cases zd : a = dx
              · subst zd; exact hdx
              · rw [upd_ne zd] at this; exact this
          · by_cases zy : a = y
            · subst zy
              rw [upd_same] at h
              cases h
              refine ⟨vc, v2, v3, p, rfl, rows, [], ?_, hsys, hpp, fun x hx => by cases hx⟩
              rw [← rowsOf_eq hr]
              exact r3.same sM
            · rw [upd_ne zy] at h
              obtain ⟨w1, w2, w3, b, ef, rows', xs, r', q'⟩ := mk'.mem.at_ a C dx' fs h
              exact ⟨w1, w2, w3, b, ef, rows', xs, r'.same sM, q'⟩
          · by_cases zy : a = y
            · by_cases zy' : a' = y
              · rw [zy, zy']
              · subst zy
                rw [upd_same] at h
                rw [upd_ne zy'] at h'
                cases h
                exact (notP _ _ _ _ _ _ h').elim
            · by_cases zy' : a' = y
              · subst zy'
                rw [upd_same] at h'
                rw [upd_ne zy] at h
                cases h'
                exact (notP _ _ _ _ _ _ h).elim
              · rw [upd_ne zy] at h
                rw [upd_ne zy'] at h'
                exact mk'.mem.inj _ _ _ _ _ _ _ _ _ _ _ _ _ h h'
        exact hp (.ref y) H' _ (k1.trans (.ofT g)) (e1.growT g) (.obj upd_same (rc.same (sm.trans sM)) (r2.same sM) (r3.same sM))
end
/-! ### xs.index(y) -/
def firstAt (d : D) : List D → Option Nat
  | [] => none
  | z :: r => if PyData.eqv z d = true then some 0 else (firstAt d r).map (· + 1)
theorem firstAt_some {d : D} : ∀ {ds : List D} {j : Nat}, firstAt d ds = some j → ∃ z, ds[j]? = some z ∧ PyData.eqv z d = true ∧ ∀ (m : Nat) (z' : D), m < j → ds[m]? = some z' → PyData.eqv z' d = false
  | [], j, h => by cases h
  | z :: r, j, h => by
    unfold firstAt at h
    split at h
    · rename_i hz
      cases h
      exact ⟨z, rfl, hz, fun m z' hm _ => absurd hm (Nat.not_lt_zero _)⟩
    · rename_i hz
      obtain ⟨i, hi, rfl⟩ := Option.map_eq_some_iff.mp h
      obtain ⟨z2, h1, h2, h3⟩ := firstAt_some hi
      refine ⟨z2, by simpa using h1, h2, fun m z' hm hz' => ?_⟩
      cases m with
      | zero => simp at hz'; subst hz'; simpa using hz
      | succ m => exact h3 m z' (by omega) (by simpa using hz')
def dIndex (x y : D) : R D := match x with
  | .list ds => if (SeqAt.shaped (.list ds) && SeqAt.shaped y) = true then (match firstAt y ds with
    | some j => .ok (.int (j : Nat))
    | none => .stuck) else .stuck
  | _ => .stuck
section
variable {B : ObjB} {X : Cx} {c : Ctx B} {pos : Pos} {k : Nat}
theorem de_index {a b : Expr} {f g : Env B → R D} {apos cpos : Pos} (G : Good X c k) (ha : DE X c a f) (hb : DE X c b g) (he : starEach [b] X.env = (false, eval b X.env) :: starEach [] X.env := by rfl)
    (hm : ∀ {ta : TE} {t : TA}, PE X a ta → PA X [b] t → PE X (.Call (.Attribute a "index" apos) [b] [] cpos) (tBM X.K "list" (rIndexD X.K) ta t) := by intro _ _ h1 h2; exact pe_bm PySem.F.plainAttrs_list PySem.F.slot_list_index PySem.F.type_list_index (mt_indexD (units65 (by assumption))) h1 h2) :
    DE X c (.Call (.Attribute a "index" apos) [b] [] cpos) (e2 dIndex f g) := by
  refine ⟨PE.imp (hm ha.pe (pa_cons hb.pe pa_nil he)) fun σ H Q ⟨I, M, ρ, e, q⟩ => ?_⟩
  refine ⟨I, M, ρ, e, q.bind.mono fun x hx v H1 M1 k1 e1 r1 => ?_⟩
  cases x with
  | list ds =>
    cases r1 with
    | lst h r =>
      refine ⟨tyV_lst (e1.mok.same _ _ h), I, M1, ρ, e1, hx.bind.mono fun y hy u H2 M2 k2 e2 r2 => ?_⟩
      obtain ⟨d, hd, hp⟩ := hy.noE
      unfold dIndex at hd
      dsimp only at hd
      split at hd
      · rename_i hs
        obtain ⟨s1, s2⟩ := Bool.and_eq_true_iff.mp hs
        split at hd
        · rename_i j hj
          cases hd
          obtain ⟨z, z1, z2, z3⟩ := firstAt_some hj
          have r1' : Rep c.K M2 (.ref _) (.list ds) := (Rep.lst h r).same k2.m
          exact ⟨_, u, y, ds, j, z, rfl, rfl, G.K ▸ shaped_dp e2.mok s1 r1', G.K ▸ shaped_dp e2.mok s2 r2, s1, s2, z1, z2, z3, hp _ H2 M2 (k1.trans k2) e2 (.int _)⟩
        · cases hd
      · cases hd
  | _ => exact absurd hx (by
      intro hx
      have := hx.bind
      cases hg : g ρ with
      | ok y => rw [hg] at this; exact this
      | exc n => rw [hg] at this; exact this
      | stuck => rw [hg] at this; exact this)
end
end PL

set_option Elab.async false
set_option linter.all false
set_option maxRecDepth 100000
set_option maxHeartbeats 4000000
/-! a tuple of a fresh list and a value: handed back, taken apart -/
namespace PL
open PySem PySem.Spec PyProof.Rows L2
section
variable {B : ObjB} {X : Cx} {c : Ctx B} {pos : Pos}
def gRetP (f : Env B → R (List D)) (g : Env B → R D) : GS B := fun ρ => (f ρ).bind fun ds => (g ρ).bind fun d => .ok (.rtP ds d, ρ)
theorem ds_retP {e1 e2 : Expr} {f : Env B → R (List D)} {g : Env B → R D} {x1 : Nat} {p : Pos} (h1 : DL X c e1 f) (h2 : DE X c e2 g) (hs1 : starEach [e1, e2] X.env = (false, eval e1 X.env) :: starEach [e2] X.env := by rfl) (hs2 : starEach [e2] X.env = (false, eval e2 X.env) :: starEach [] X.env := by rfl) :
    DS X c (.Return (some (.Tuple [e1, e2] x1 p)) pos) (gRetP f g) := by
  refine ⟨PS.imp (ps_ret (pe_tup (pa_cons h1.pe (pa_cons h2.pe pa_nil hs2) hs1))) fun Dn σ H ⟨I, M, ρ, e, q⟩ => ?_⟩
  refine ⟨I, M, ρ, e, q.bind.mono fun ds hd l vs H1 M1 k1 ee1 hl ml nl r1 => ?_⟩
  refine ⟨I, M1, ρ, ee1, hd.bind.mono fun d hd2 v H2 M2 k2 ee2 r2 => ?_⟩
  refine ⟨le_line (n := 2) (by decide), fun p hp => ?_⟩
  have hl2 : H2 l = some (.lst vs) := k2.k.at hl rfl
  have ml2 : M2 l = none := by
    cases z : M2 l with
    | none => rfl
    | some o =>
      have := k2.new l o z ml
      rw [hl] at this
      cases this
  have np : l ≠ p := fun z => by
    rw [z, hp] at hl2
    cases hl2
  have sm : Same H2 (upd H2 p (.tup [.ref l, v])) := upd_same_of hp
  have ee3 : EnvR c.K I M2 (upd H2 p (.tup [.ref l, v])) σ ρ := by
    refine ee2.grow ⟨sm, Same.refl _, fun a o h => ?_, (fun a o h n => by rw [h] at n; cases n), (fun a o h n => by rw [h] at n; cases n)⟩
    exact ⟨sm _ _ (ee2.mok a o h).1, (ee2.mok a o h).2⟩
  exact hd2 p l vs v σ _ M2 (k1.m.trans k2.m) ee3 upd_same (by rw [upd_ne np]; exact hl2) ml2 (e.ent.free nl) (r1.same k2.m) r2
variable {P : Program} {w : World} {K : PySem.W.Frag} {mg : Str → Option Value} {base : Heap} {cA : Nat → Addr}
def spP (K : PySem.W.Frag) (cA : Nat → Addr) (ar : Nat) (F : List D → R (List D × D)) : Sp := fun vs H Q E => vs.length = ar ∧ ∃ M ds, MOkT K M H ∧ Reps K M vs ds ∧ RF cA E H (F ds) fun x => ∀ p l ws v H' M', GrowT K M H M' H' → H' p = some (.tup [.ref l, v]) → H' l = some (.lst ws) → M' l = none → H l = none → Reps K M' ws x.1 → Rep K M' v x.2 → Q (.ref p) H'
abbrev DfP (P : Program) (w : World) (K : PySem.W.Frag) (mg : Str → Option Value) (base : Heap) (cA : Nat → Addr) (x : Str) (k ar : Nat) (F : List D → R (List D × D)) : Prop := DfS P w K mg base x k ar (spP K cA ar F)
def endP (r : Fl × Env B) : R (List D × D) := match r.1 with
  | .rtP ds d => .ok (ds, d)
  | _ => .stuck
def runP (n : Nat) (g : GS B) : List D → R (List D × D) := fun ds => (g (startE n ds)).bind endP
theorem dfp_mk {x qual : Str} {params : Arguments} {body : List Stmt} {scope : Scope} {kws : List (Str × V)} {f : Addr} {fd : FuncData} {N ps : List Str} {k : Nat} {g : GS B} (FD : FunD K x qual params body scope [] kws f fd) (S : FnScope N ps scope)
    (hb : Binds K fd ps []) (gx : mg x = some (.ref f))
    (hbody : ∀ (cdv : Value) (A : Around) (outer : List PySem.Env) (s : Shared) (H : Hp) (E : XK), GoodS (B := B) (bodyC P w K mg base N qual scope f cdv A outer s H E) ⟨K, cA, E⟩ k → DSs (bodyC P w K mg base N qual scope f cdv A outer s H E) ⟨K, cA, E⟩ body g) :
    DfP P w K mg base cA x (k + 1) ps.length (runP N.length g) := by
  refine ⟨f, fd, ps, rfl, FD.ok S (fun vs H Q E h => h.1) (fun cdv A outer s H vs Q E hr ⟨hl, M, ds, mk, r, h⟩ => ⟨_, (hbody cdv A outer s H E (good_body S.nd hr)).pss, ?_⟩), gx, FD.kp, hb⟩
  refine ⟨⟨M, H, false⟩, M, startE N.length ds, startE_env mk r, ?_⟩
  unfold runP at h
  cases hg : g (startE N.length ds) with
  | ok res =>
    rw [hg] at h
    obtain ⟨fl, ρ'⟩ := res
    cases fl with
    | nx => exact h.elim
    | bk => exact h.elim
    | ct => exact h.elim
    | rt d => exact h.elim
    | rtL xs => exact h.elim
    | rtP xs d => exact fun p l ws v σ' H' M' s' e' hp hl ml il r' rv => (show ∀ p l ws v H' M', GrowT K M H M' H' → H' p = some (.tup [.ref l, v]) → H' l = some (.lst ws) → M' l = none → H l = none → Reps K M' ws xs → Rep K M' v d → Q (.ref p) H' from h) p l ws v H' M' e'.growth hp hl ml il r' rv
  | exc n =>
    rw [hg] at h
    exact h.elim
  | stuck => rw [hg] at h; exact h.elim
def gTgtP (i j ar : Nat) (F : List D → R (List D × D)) (f : Env B → R (List D)) : GS B := fun ρ => (f ρ).bind fun ds => if ds.length = ar then (F ds).bind fun x => .ok (.nx, (ρ.set i (.own x.1)).set j (.val x.2)) else .stuck
theorem ds_tgtP {x y : Str} {fx : Str} {i j : Nat} {e : Expr} {es : List Expr} {f : Env B → R (List D)} {k k' ar n : Nat} {F : List D → R (List D × D)} {p p1 p2 p3 p4 : Pos} (G : Good X c k) (d : DfP X.prog X.w X.K X.mg X.base c.cA fx k' ar F) (hj : k' ≤ k) (ha : DA X c (e :: es) f)
    (hN : X.N.Nodup) (hi : X.N[i]? = some x) (hx : Loc X.env.scope x) (hi2 : X.N[j]? = some y) (hx2 : Loc X.env.scope y) (hg : Gl X fx := by rfl)
    (hf : X.fn x = true ∨ X.env.scope.names.lookup x = some .local := by first | exact .inl rfl | exact .inr rfl) (hf2 : X.fn y = true ∨ X.env.scope.names.lookup y = some .local := by first | exact .inl rfl | exact .inr rfl)
    (hdb : (fx == ("__debug__" : Str)) = false := by decide) (he : starEach (e :: es) X.env = (false, eval e X.env) :: starEach es X.env := by rfl) (hpl : (backTo p4 (starEach es X.env)).any (·.1) = false := by rfl)
    (hs : swapsWithSole [.Tuple [.Name x p1, .Name y p2] n p3] (.Call (.Name fx p) (e :: es) [] p4) pos.line X.env = pure false := by rfl) (hw : swappedStores [.Tuple [.Name x p1, .Name y p2] n p3] (.Call (.Name fx p) (e :: es) [] p4) X.env = pure none := by rfl)
    (h1 : (assignEach [.Tuple [.Name x p1, .Name y p2] n p3] X.env).map (·.2) = [assign (.Tuple [.Name x p1, .Name y p2] n p3) X.env] := by rfl)
    (hn : (assignEach [.Name x p1, .Name y p2] X.env).length = 2 := by rfl) (hst : (assignEach [.Name x p1, .Name y p2] X.env).findIdx? (·.1) = none := by rfl)
    (hs2 : (assignEach [.Name x p1, .Name y p2] X.env).map (·.2) = assign (.Name x p1) X.env :: (assignEach [.Name y p2] X.env).map (·.2) := by rfl) (hs3 : (assignEach [.Name y p2] X.env).map (·.2) = assign (.Name y p2) X.env :: (assignEach [] X.env).map (·.2) := by rfl) :
    DS X c (.Assign [.Tuple [.Name x p1, .Name y p2] n p3] (.Call (.Name fx p) (e :: es) [] p4) pos) (gTgtP i j ar F f) := by
  obtain ⟨fa, fd, ps, hl, hF, hm, hk, hb⟩ := d.ex
  refine ⟨PS.imp (ps_asg (pe_call hF (G.room.mono hj) hg hm hk hb .nil G.pass ha.pa hdb he hpl) (pg_tup G.calm (pgs_cons (pg_name hN hi hx hf) (pgs_cons (pg_name hN hi2 hx2 hf2) pgs_nil hs3) hs2) hn hst) hs hw h1) fun Dn σ H ⟨I, M, ρ, e0, q⟩ => ?_⟩
  refine ⟨I, M, ρ, e0, q.bind.mono fun ds hxx vs H1 M1 k1 ee1 r1 => ?_⟩
  split at hxx
  · rename_i hlen
    rw [List.append_nil]
    refine ⟨by rw [r1.length]; exact hlen, M1, ds, G.K ▸ ee1.okT, G.K ▸ r1, ?_⟩
    cases hF : F ds with
    | ok a =>
      rw [hF] at hxx
      intro p l ws v H' M' g hp hl ml nl rr rv
      have e3 : EnvR c.K I M' H' σ ρ := ee1.growT (G.K ▸ g)
      have hp' : PostS c I M Dn (.nx, (ρ.set i (.own a.1)).set j (.val a.2)) := hxx
      refine ⟨p, [.ref l, v], rfl, SqT.of hp, rfl, .ref l, [v], rfl, ?_⟩
      refine ⟨v, [], rfl, rfl, ?_⟩
      exact hp' _ H' M' (k1.m.trans g.m) ((e3.setOwn hl ml (ee1.ent.free nl) (G.K ▸ rr) fun jj es' _ hjj => ee1.ownThere hjj nl).set (G.K ▸ rv))
    | exc n =>
      rw [hF] at hxx
      exact hxx.elim
    | stuck => rw [hF] at hxx; exact hxx.elim
  · exact hxx.elim
/-- a + b of lists: a fresh one -/
def lCat (f g : Env B → R D) : Env B → R (List D) := fun ρ => (f ρ).bind fun x => (g ρ).bind fun y => match x, y with
  | .list xs, .list ys => if xs.length + ys.length ≤ 100000 then .ok (xs ++ ys) else .stuck
  | _, _ => .stuck
theorem dl_cat {a b : Expr} {f g : Env B → R D} (K : c.K = X.K) (ha : DE X c a f) (hb : DE X c b g) : DL X c (.BinOp a .Add b pos) (lCat f g) := by
  refine ⟨PE.imp (pe_op op_cat ha.pe hb.pe) fun σ H Q ⟨I, M, ρ, e, q⟩ => ?_⟩
  refine ⟨I, M, ρ, e, q.bind.mono fun x hx v H1 M1 k1 ee1 r1 => ?_⟩
  refine ⟨I, M1, ρ, ee1, hx.bind.mono fun y hy u H2 M2 k2 ee2 r2 => ?_⟩
  have r1' := r1.same k2.m
  split at hy
  · rename_i xs ys
    split at hy
    · rename_i hl
      cases r1' with
      | lst h1 ra =>
        cases r2 with
        | lst h2 rb =>
          exact ⟨_, _, _, _, rfl, rfl, ee2.mok.same _ _ h1, ee2.mok.same _ _ h2, by rw [ra.length, rb.length]; exact le_line5 hl, fresh_end hy (k1.trans k2) ee2 (ra.append rb)⟩
    · exact hy.elim
  · exact hy.elim
end
end PL

set_option Elab.async false
set_option linter.all false
set_option maxRecDepth 100000
set_option maxHeartbeats 4000000

namespace W
open PySem PySem.Spec PyProof.Rows L2 PL
/-! ### the text: its defs by place, the facts of its top -/
def top (i : Nat) : Stmt := PySem.Challenge.pw_panplan_k10_whole_known_cases.main.body.getD i (.Pass ⟨0, 0, 0, 0⟩)
abbrev dF (x : Str) (i : Nat) : He.DefD := ⟨(x, none), x, x, defArgs (top i), defBody (top i), defScope (top i), [], []⟩
def clsBody (s : Stmt) : List Stmt := match s with | .ClassDef _ _ _ b _ _ _ _ _ _ _ => b | _ => []
def mth (k : Nat) : Stmt := (clsBody (top 29)).getD k (.Pass ⟨0, 0, 0, 0⟩)
abbrev dM (x q : Str) (k : Nat) : He.DefD := ⟨("Search", some x), x, q, defArgs (mth k), defBody (mth k), defScope (mth k), [], []⟩
def fn : List He.DefD := [dF "is_among" 9, dF "need_many" 10, dF "is_case" 11, dF "need_cases" 12, dF "is_pan" 14, dF "is_weighing" 15, dF "rising_tuples" 16, dF "leading" 17, dF "came" 18, dF "threes" 21, dF "is_many" 22, dF "is_done" 25, dF "need_done" 26, dF "still_open" 27, dF "told" 30, dF "least" 31, dF "_law_cell_at" 33, dF "_law_mixed" 34, dF "_law_whole" 35, dF "_law_came" 36, dF "_law_pans" 37, dF "_law_is_pan" 38, dF "_law_is_weighing" 39, dF "_law_is_case_told" 40, dF "_law_is_plan" 41, dF "_law_length" 42, dF "_law_threes" 43, dF "_law_is_hold" 44, dF "_law_two" 45, dF "_law_one" 46, dF "_law_any" 47, dF "_law_known" 48, dF "law" 49, dM "__init__" "Search.__init__" 0, dM "parts" "Search.parts" 1, dM "fits" "Search.fits" 2, dM "first" "Search.first" 3, dM "plan" "Search.plan" 4, dM "hold" "Search.hold" 5, dM "alike" "Search.alike" 6, dM "least" "Search.least" 7]
def fa : List He.Fa := [.free "all", .free "bool", .free "enumerate", .free "int", .free "isinstance", .free "len", .free "list", .free "max", .free "min", .free "range", .free "set", .free "sorted", .free "str", .free "sum", .free "tuple", .glo "is_among", .glo "need_many", .glo "is_case", .glo "need_cases", .glo "is_pan", .glo "is_weighing", .glo "rising_tuples", .glo "leading", .glo "came", .glo "threes", .glo "is_many", .glo "is_done", .glo "need_done", .glo "still_open", .glo "told", .glo "least", .glo "_law_cell_at", .glo "_law_mixed", .glo "_law_whole", .glo "_law_came", .glo "_law_pans", .glo "_law_is_pan", .glo "_law_is_weighing", .glo "_law_is_case_told", .glo "_law_is_plan", .glo "_law_length", .glo "_law_threes", .glo "_law_is_hold", .glo "_law_two", .glo "_law_one", .glo "_law_any", .glo "_law_known", .glo "law", .glo "Search", .cls "Search", .mkr "Search", .noat "Search" "cases", .noat "Search" "pans", .noat "Search" "rows", .noat "Search" "known", .meth "Search" "parts", .meth "Search" "fits", .meth "Search" "first", .meth "Search" "plan", .meth "Search" "hold", .meth "Search" "alike", .meth "Search" "least", .int "LEAST_THINGS" 2, .int "MOST_THINGS" 5, .int "MOST_CASES" 12, .int "MOST_DONE" 20, .exc "PanError", .glo "PanError", .exc "BadCount", .glo "BadCount", .exc "BadCases", .glo "BadCases", .exc "BadDone", .glo "BadDone", .glo "OUTCOMES"]
def ex : PySem.W.Frag → Bool := fun K => tupFact "OUTCOMES" [-1, 0, 1] K
abbrev TF (K : PySem.W.Frag) (mg : Str → Option Value) : Prop := FactsX K mg fa fn ex
theorem tup_OUTCOMES {K : PySem.W.Frag} {mg : Str → Option Value} (T : TF K mg) : tupFact "OUTCOMES" [-1, 0, 1] K = true := T.ex
/-- the classes of errors by their numbers: 0 PanError, 1 BadCount, 2 BadCases, 3 BadDone -/
def cA (K : PySem.W.Frag) : Nat → Addr
  | 0 => He.ga K "PanError"
  | 1 => He.ga K "BadCount"
  | 2 => He.ga K "BadCases"
  | 3 => He.ga K "BadDone"
  | _ => 0
variable {P : Program} {w : World} {K : PySem.W.Frag} {mg : Str → Option Value} {base : Heap}
theorem clsF (T : TF K mg) : Cls K (clsS K) := He.cls_ok (T.says.fact 49 rfl)
theorem mkF (T : TF K mg) : Mk K (clsS K) (He.ma K (clsS K) "__init__") := He.mkr_ok (T.says.fact 50 rfl)
theorem noF_cases (T : TF K mg) : NoAttr K (clsS K) "cases" := He.noat_ok (T.says.fact 51 rfl)
theorem noF_pans (T : TF K mg) : NoAttr K (clsS K) "pans" := He.noat_ok (T.says.fact 52 rfl)
theorem noF_rows (T : TF K mg) : NoAttr K (clsS K) "rows" := He.noat_ok (T.says.fact 53 rfl)
theorem noF_known (T : TF K mg) : NoAttr K (clsS K) "known" := He.noat_ok (T.says.fact 54 rfl)
/-! ### is_among -/
def g_is_among : GS noObj := (gRet (eAnd (e1 (dIsi "int") (eVar 0)) (eAnd (eNot (e1 (dIsi "bool") (eVar 0))) (eChain dLe dLe (eVar 1) (eVar 0) (eVar 2)))))
def F_is_among : List D → R D := runF 3 g_is_among
theorem sc_is_among : FnScope ["thing", "least", "most"] ["thing", "least", "most"] (defScope (top 9)) := ⟨rfl, rfl, rfl, by decide +kernel, rfl, by decide +kernel, by decide +kernel⟩
theorem df_is_among (T : TF K mg) : Df P w K mg base (cA K) "is_among" 1 3 F_is_among := by
  obtain ⟨fd, FD⟩ := T.says.def_ 0 (d := dF "is_among" 9) rfl
  refine df_mk (B := noObj) (k := 0) (g := g_is_among) FD sc_is_among (FD.bindsN fun _ _ _ _ _ _ us hl => match us, hl with | [_, _, _], _ => rfl) (T.glo 15) fun cdv A outer s H E G => ?_
  exact (dss_one (ds_ret (de_and (de_isi G.toGood.K (T.free 4) (T.free 3) boot_intT (de_var (i := 0) rfl (.inl rfl))) (de_and (de_not (de_isi G.toGood.K (T.free 4) (T.free 1) boot_boolT (de_var (i := 0) rfl (.inl rfl)))) (de_one (de_chain cLe cLe G.toGood.K (de_var (i := 1) rfl (.inl rfl)) (de_var (i := 0) rfl (.inl rfl)) (de_var (i := 2) rfl (.inl rfl))))))))
/-! ### need_many -/
def g_need_many : GS noObj := (gIf (tNotD (tV (eCall 3 F_is_among (aCons (eVar 0) (aCons (eC (.int 2)) (aCons (eC (.int 5)) aNil)))))) (gExc 1) gNil)
def F_need_many : List D → R D := runF 1 g_need_many
theorem sc_need_many : FnScope ["many"] ["many"] (defScope (top 10)) := ⟨rfl, rfl, rfl, by decide +kernel, rfl, by decide +kernel, by decide +kernel⟩
theorem df_need_many (T : TF K mg) : Df P w K mg base (cA K) "need_many" 2 1 F_need_many := by
  obtain ⟨fd, FD⟩ := T.says.def_ 1 (d := dF "need_many" 10) rfl
  refine df_mk (B := noObj) (k := 1) (g := g_need_many) FD sc_need_many (FD.bindsN fun _ _ _ _ _ _ us hl => match us, hl with | [_], _ => rfl) (T.glo 16) fun cdv A outer s H E G => ?_
  exact (dss_one (ds_if (dt_not (dt_val (de_call G.toGood (df_is_among T) (by decide) (da_cons (de_var (i := 0) rfl (.inl rfl)) (da_cons (de_gint (T.int 62)) (da_cons (de_gint (T.int 63)) da_nil)))))) (dss_one (ds_raise (n := 1) G (T.exc rfl rfl 68 69))) dss_nil))
/-! ### is_case -/
def c_is_case_1 : Env noObj → R (List D) := (lLc (iSeq (eVar 1)) (gN 2) tYesD (eCall 3 F_is_among (aCons (eVar 2) (aCons (e1 dNeg (eC (.int 1))) (aCons (eC (.int 1)) aNil)))) [2])
def g_is_case : GS noObj := (gSeq (gIf (tOrD (tNotD (tV (e1 (dIsi "tuple") (eVar 1)))) (tV (e2 dNe (eA dLen (aCons (eVar 1) aNil)) (eVar 0)))) (gRet (eC (.bool false))) gNil) (gRet (eA dAll (aCons (eL c_is_case_1) aNil))))
def F_is_case : List D → R D := runF 3 g_is_case
theorem sc_is_case : FnScope ["many", "thing", "one"] ["many", "thing"] (defScope (top 11)) := ⟨rfl, rfl, rfl, by decide +kernel, rfl, by decide +kernel, by decide +kernel⟩
theorem df_is_case (T : TF K mg) : Df P w K mg base (cA K) "is_case" 2 2 F_is_case := by
  obtain ⟨fd, FD⟩ := T.says.def_ 2 (d := dF "is_case" 11) rfl
  refine df_mk (B := noObj) (k := 1) (g := g_is_case) FD sc_is_case (FD.bindsN fun _ _ _ _ _ _ us hl => match us, hl with | [_, _], _ => rfl) (T.glo 17) fun cdv A outer s H E G => ?_
  exact (dss_cons (ds_if (dt_w (dw_or (dt_not (dt_val (de_isi G.toGood.K (T.free 4) (T.free 14) boot_tupleT (de_var (i := 1) rfl (.inl rfl))))) (dw_or1 (dt_cmp (cNe G.toGood.room) G.toGood.K (de_len G.toGood.K (T.free 5) (da_cons (de_var (i := 1) rfl (.inl rfl)) da_nil)) (de_var (i := 0) rfl (.inl rfl)) (nomark _))))) (dss_one (ds_ret de_bl)) dss_nil) (dss_one (ds_ret (de_all G.toGood.K G.toGood.calm (T.free 0) (da_cons (de_l (dl_lc (own := [("one", 2)]) G.toGood (di_seq G.toGood.K (de_var (i := 1) rfl (.inl rfl))) (blkOk_by (by kernel_rfl)) (fun _ _ _ _ _ => (dg_name (i := 2) G.toGood.nd rfl (.inl rfl))) (by decide) (fun _ _ _ _ _ G1 => dts_nil) (fun _ _ _ _ _ G1 => (de_call G1 (df_is_among T) (by decide) (da_cons (de_var (i := 2) rfl (.inl rfl)) (da_cons (de_neg de_int) (da_cons de_int da_nil))))))) da_nil)))))
/-! ### need_cases -/
def g_need_cases_L1 : GS noObj := (gIf (tOrD (tNotD (tV (eCall 2 F_is_case (aCons (eVar 0) (aCons (eVar 3) aNil))))) (tV (e2 dIn (eVar 3) (eSl (eVar 1) oNone (oSome (eVar 2)))))) (gExc 2) gNil)
def g_need_cases : GS noObj := (gSeq (gDrop (eCall 1 F_need_many (aCons (eVar 0) aNil))) (gSeq (gIf (tOrD (tNotD (tV (e1 (dIsi "list") (eVar 1)))) (tNotD (tV (eChain dLe dLe (eC (.int 1)) (eA dLen (aCons (eVar 1) aNil)) (eC (.int 12)))))) (gExc 2) gNil) (gFor (iEnumD (aCons (eVar 1) aNil)) (gT 2 (gsC (gN 2) (gsC (gN 3) gsN))) g_need_cases_L1)))
def F_need_cases : List D → R D := runF 4 g_need_cases
theorem sc_need_cases : FnScope ["many", "cases", "place", "case"] ["many", "cases"] (defScope (top 12)) := ⟨rfl, rfl, rfl, by decide +kernel, rfl, by decide +kernel, by decide +kernel⟩
theorem df_need_cases (T : TF K mg) : Df P w K mg base (cA K) "need_cases" 3 2 F_need_cases := by
  obtain ⟨fd, FD⟩ := T.says.def_ 3 (d := dF "need_cases" 12) rfl
  refine df_mk (B := noObj) (k := 2) (g := g_need_cases) FD sc_need_cases (FD.bindsN fun _ _ _ _ _ _ us hl => match us, hl with | [_, _], _ => rfl) (T.glo 18) fun cdv A outer s H E G => ?_
  exact (dss_cons (ds_expr (de_call G.toGood (df_need_many T) (by decide) (da_cons (de_var (i := 0) rfl (.inl rfl)) da_nil))) (dss_cons (ds_if (dt_w (dw_or (dt_not (dt_val (de_isi G.toGood.K (T.free 4) (T.free 6) boot_listT (de_var (i := 1) rfl (.inl rfl))))) (dw_or1 (dt_not (dt_chain cLe cLe G.toGood.K de_int (de_len G.toGood.K (T.free 5) (da_cons (de_var (i := 1) rfl (.inl rfl)) da_nil)) (de_gint (T.int 64))))))) (dss_one (ds_raise (n := 2) G (T.exc rfl rfl 70 71))) dss_nil) (dss_one (ds_for G (di_enum G.toGood.K (T.free 2) (da_cons (de_var (i := 1) rfl (.inl rfl)) da_nil)) (dg_tup G.toGood.calm (dgs_cons (dg_name (i := 2) G.toGood.nd rfl (.inl rfl)) (dgs_cons (dg_name (i := 3) G.toGood.nd rfl (.inl rfl)) dgs_nil))) (dss_one (ds_if (dt_w (dw_or (dt_not (dt_val (de_call G.toGood (df_is_case T) (by decide) (da_cons (de_var (i := 0) rfl (.inl rfl)) (da_cons (de_var (i := 3) rfl (.inl rfl)) da_nil))))) (dw_or1 (dt_cmp (cIn G.toGood.room) G.toGood.K (de_var (i := 3) rfl (.inl rfl)) (de_sl G.toGood.K (de_var (i := 1) rfl (.inl rfl)) do_none (do_some (de_var (i := 2) rfl (.inl rfl)))) rfl)))) (dss_one (ds_raise (n := 2) G (T.exc rfl rfl 70 71))) dss_nil))))))
/-! ### is_pan -/
def g_is_pan_L1 : GS noObj := (gIf (tOrD (tNotD (tV (eCall 3 F_is_among (aCons (eVar 3) (aCons (eC (.int 0)) (aCons (e2 dSub (eVar 0) (eC (.int 1))) aNil)))))) (tAndD (tV (e2 dGt (eVar 2) (eC (.int 0)))) (tV (e2 dLe (eVar 3) (e2 dIx (eVar 1) (e2 dSub (eVar 2) (eC (.int 1)))))))) (gRet (eC (.bool false))) gNil)
def g_is_pan : GS noObj := (gSeq (gIf (tOrD (tNotD (tV (e1 (dIsi "tuple") (eVar 1)))) (tV (e2 dEq (eVar 1) (eTup aNil)))) (gRet (eC (.bool false))) gNil) (gSeq (gFor (iEnumD (aCons (eVar 1) aNil)) (gT 2 (gsC (gN 2) (gsC (gN 3) gsN))) g_is_pan_L1) (gRet (eC (.bool true)))))
def F_is_pan : List D → R D := runF 4 g_is_pan
theorem sc_is_pan : FnScope ["many", "thing", "place", "one"] ["many", "thing"] (defScope (top 14)) := ⟨rfl, rfl, rfl, by decide +kernel, rfl, by decide +kernel, by decide +kernel⟩
theorem df_is_pan (T : TF K mg) : Df P w K mg base (cA K) "is_pan" 2 2 F_is_pan := by
  obtain ⟨fd, FD⟩ := T.says.def_ 4 (d := dF "is_pan" 14) rfl
  refine df_mk (B := noObj) (k := 1) (g := g_is_pan) FD sc_is_pan (FD.bindsN fun _ _ _ _ _ _ us hl => match us, hl with | [_, _], _ => rfl) (T.glo 19) fun cdv A outer s H E G => ?_
  exact (dss_cons (ds_if (dt_w (dw_or (dt_not (dt_val (de_isi G.toGood.K (T.free 4) (T.free 14) boot_tupleT (de_var (i := 1) rfl (.inl rfl))))) (dw_or1 (dt_cmp (cEq G.toGood.room) G.toGood.K (de_var (i := 1) rfl (.inl rfl)) (de_tup da_nil) (nomark _))))) (dss_one (ds_ret de_bl)) dss_nil) (dss_cons (ds_for G (di_enum G.toGood.K (T.free 2) (da_cons (de_var (i := 1) rfl (.inl rfl)) da_nil)) (dg_tup G.toGood.calm (dgs_cons (dg_name (i := 2) G.toGood.nd rfl (.inl rfl)) (dgs_cons (dg_name (i := 3) G.toGood.nd rfl (.inl rfl)) dgs_nil))) (dss_one (ds_if (dt_w (dw_or (dt_not (dt_val (de_call G.toGood (df_is_among T) (by decide) (da_cons (de_var (i := 3) rfl (.inl rfl)) (da_cons de_int (da_cons (de_sub (de_var (i := 0) rfl (.inl rfl)) de_int) da_nil)))))) (dw_or1 (dt_w (dw_and (dt_cmp cGt G.toGood.K (de_var (i := 2) rfl (.inl rfl)) de_int (nomark _)) (dw_and1 (dt_cmp cLe G.toGood.K (de_var (i := 3) rfl (.inl rfl)) (de_ix G.toGood.K (de_var (i := 1) rfl (.inl rfl)) (de_sub (de_var (i := 2) rfl (.inl rfl)) de_int)) (nomark _)))))))) (dss_one (ds_ret de_bl)) dss_nil))) (dss_one (ds_ret de_bl))))
/-! ### is_weighing -/
def c_is_weighing_1 : Env noObj → R (List D) := (lLc (iSeq (e2 dIx (eVar 1) (eC (.int 0)))) (gN 2) (tV (e2 dIn (eVar 2) (e2 dIx (eVar 1) (eC (.int 1))))) (eVar 2) [2])
def g_is_weighing : GS noObj := (gSeq (gIf (tOrD (tNotD (tV (e1 (dIsi "tuple") (eVar 1)))) (tOrD (tV (e2 dNe (eA dLen (aCons (eVar 1) aNil)) (eC (.int 2)))) (tOrD (tNotD (tV (eCall 2 F_is_pan (aCons (eVar 0) (aCons (e2 dIx (eVar 1) (eC (.int 0))) aNil))))) (tNotD (tV (eCall 2 F_is_pan (aCons (eVar 0) (aCons (e2 dIx (eVar 1) (eC (.int 1))) aNil)))))))) (gRet (eC (.bool false))) gNil) (gRet (eAnd (e2 dEq (eA dLen (aCons (e2 dIx (eVar 1) (eC (.int 0))) aNil)) (eA dLen (aCons (e2 dIx (eVar 1) (eC (.int 1))) aNil))) (e2 dEq (eL c_is_weighing_1) (eLst aNil)))))
def F_is_weighing : List D → R D := runF 3 g_is_weighing
theorem sc_is_weighing : FnScope ["many", "thing", "one"] ["many", "thing"] (defScope (top 15)) := ⟨rfl, rfl, rfl, by decide +kernel, rfl, by decide +kernel, by decide +kernel⟩
theorem df_is_weighing (T : TF K mg) : Df P w K mg base (cA K) "is_weighing" 3 2 F_is_weighing := by
  obtain ⟨fd, FD⟩ := T.says.def_ 5 (d := dF "is_weighing" 15) rfl
  refine df_mk (B := noObj) (k := 2) (g := g_is_weighing) FD sc_is_weighing (FD.bindsN fun _ _ _ _ _ _ us hl => match us, hl with | [_, _], _ => rfl) (T.glo 20) fun cdv A outer s H E G => ?_
  exact (dss_cons (ds_if (dt_w (dw_or (dt_not (dt_val (de_isi G.toGood.K (T.free 4) (T.free 14) boot_tupleT (de_var (i := 1) rfl (.inr (.inl rfl)))))) (dw_or (dt_cmp (cNe G.toGood.room) G.toGood.K (de_len G.toGood.K (T.free 5) (da_cons (de_var (i := 1) rfl (.inr (.inl rfl))) da_nil)) de_int (nomark _)) (dw_or (dt_not (dt_val (de_call G.toGood (df_is_pan T) (by decide) (da_cons (de_var (i := 0) rfl (.inl rfl)) (da_cons (de_ix G.toGood.K (de_var (i := 1) rfl (.inr (.inl rfl))) de_int) da_nil))))) (dw_or1 (dt_not (dt_val (de_call G.toGood (df_is_pan T) (by decide) (da_cons (de_var (i := 0) rfl (.inl rfl)) (da_cons (de_ix G.toGood.K (de_var (i := 1) rfl (.inr (.inl rfl))) de_int) da_nil)))))))))) (dss_one (ds_ret de_bl)) dss_nil) (dss_one (ds_ret (de_and (de_cmp (cEq G.toGood.room) G.toGood.K (de_len G.toGood.K (T.free 5) (da_cons (de_ix G.toGood.K (de_var (i := 1) rfl (.inr (.inl rfl))) de_int) da_nil)) (de_len G.toGood.K (T.free 5) (da_cons (de_ix G.toGood.K (de_var (i := 1) rfl (.inr (.inl rfl))) de_int) da_nil)) (nomark _)) (de_one (de_cmp (cEq G.toGood.room) G.toGood.K (de_l (dl_lc (own := [("one", 2)]) G.toGood (di_seq G.toGood.K (de_ix G.toGood.K (de_var (i := 1) rfl (.inr (.inl rfl))) de_int)) (blkOk_by (by kernel_rfl)) (fun _ _ _ _ _ => (dg_name (i := 2) G.toGood.nd rfl (.inl rfl))) (by decide) (fun _ _ _ _ _ G1 => (dts_one (dt_cmp (cIn G1.room) G1.K (de_var (i := 2) rfl (.inl rfl)) (de_ix G1.K (de_var (i := 1) rfl (.inr (.inl rfl))) de_int) rfl))) (fun _ _ _ _ _ G1 => (de_var (i := 2) rfl (.inl rfl))))) (de_lst da_nil) (nomark _)))))))
/-! ### rising_tuples -/
def c_rising_tuples_1 : Env noObj → R (List D) := (lLc (iSeq (eVar 1)) (gN 3) tYesD (e2 dAdd (eVar 3) (eTup (aCons (eVar 2) aNil))) [3])
def g_rising_tuples_L1 : GS noObj := (gSet 1 (e2 dAdd (eVar 1) (eL c_rising_tuples_1)))
def g_rising_tuples : GS noObj := (gSeq (gSet 1 (eLst (aCons (eTup aNil) aNil))) (gSeq (gFor (iSeq (eVar 0)) (gN 2) g_rising_tuples_L1) (gRet (eVar 1))))
def F_rising_tuples : List D → R D := runF 4 g_rising_tuples
theorem sc_rising_tuples : FnScope ["some", "found", "one", "pan"] ["some"] (defScope (top 16)) := ⟨rfl, rfl, rfl, by decide +kernel, rfl, by decide +kernel, by decide +kernel⟩
theorem df_rising_tuples (T : TF K mg) : Df P w K mg base (cA K) "rising_tuples" 1 1 F_rising_tuples := by
  obtain ⟨fd, FD⟩ := T.says.def_ 6 (d := dF "rising_tuples" 16) rfl
  refine df_mk (B := noObj) (k := 0) (g := g_rising_tuples) FD sc_rising_tuples (FD.bindsN fun _ _ _ _ _ _ us hl => match us, hl with | [_], _ => rfl) (T.glo 21) fun cdv A outer s H E G => ?_
  exact (dss_cons (ds_set G.toGood.nd rfl (.inl rfl) (de_lst (da_cons (de_tup da_nil) da_nil))) (dss_cons (ds_for G (di_seq G.toGood.K (de_var (i := 0) rfl (.inl rfl))) (dg_name (i := 2) G.toGood.nd rfl (.inr rfl)) (dss_one (ds_set G.toGood.nd rfl (.inl rfl) (de_add G.toGood.K (de_var (i := 1) rfl (.inl rfl)) (de_l (dl_lc (own := [("pan", 3)]) G.toGood (di_seq G.toGood.K (de_var (i := 1) rfl (.inl rfl))) (blkOk_by (by kernel_rfl)) (fun _ _ _ _ _ => (dg_name (i := 3) G.toGood.nd rfl (.inl rfl))) (by decide) (fun _ _ _ _ _ G1 => dts_nil) (fun _ _ _ _ _ G1 => (de_add G1.K (de_var (i := 3) rfl (.inl rfl)) (de_tup (da_cons (de_var (i := 2) rfl (.inr (.inl rfl))) da_nil)))))))))) (dss_one (ds_ret (de_var (i := 1) rfl (.inl rfl))))))
/-! ### leading -/
def c_leading_1 : Env noObj → R (List D) := (lLc (iRng2 (aCons (e2 dIx (eVar 2) (eC (.int 0))) (aCons (eVar 0) aNil))) (gN 4) (tV (e2 dNotIn (eVar 4) (eVar 2))) (eVar 4) [4])
def c_leading_2 : Env noObj → R (List D) := (lLc (iSeq (eCall 1 F_rising_tuples (aCons (eVar 3) aNil))) (gN 5) (tV (e2 dEq (eA dLen (aCons (eVar 5) aNil)) (eA dLen (aCons (eVar 2) aNil)))) (eTup (aCons (eVar 2) (aCons (eVar 5) aNil))) [5])
def g_leading_L1 : GS noObj := (gIf (tV (e2 dNe (eVar 2) (eTup aNil))) (gSeq (gSet 3 (eL c_leading_1)) (gExt 1 (eL c_leading_2))) gNil)
def g_leading : GS noObj := (gSeq (gDrop (eCall 1 F_need_many (aCons (eVar 0) aNil))) (gSeq (gOwn 1 (lDisp aNil)) (gSeq (gFor (iSeq (eCall 1 F_rising_tuples (aCons (eL (lListRange (eVar 0))) aNil))) (gN 2) g_leading_L1) (gFrz 1 (gRetL (eSorted (aCons (eVar 1) aNil)))))))
def F_leading : List D → R (List D) := runL 6 g_leading
theorem sc_leading : FnScope ["many", "found", "left", "others", "one", "right"] ["many"] (defScope (top 17)) := ⟨rfl, rfl, rfl, by decide +kernel, rfl, by decide +kernel, by decide +kernel⟩
theorem df_leading (T : TF K mg) : DfL P w K mg base (cA K) "leading" 3 1 F_leading := by
  obtain ⟨fd, FD⟩ := T.says.def_ 7 (d := dF "leading" 17) rfl
  refine dfl_mk (B := noObj) (k := 2) (g := g_leading) FD sc_leading (FD.bindsN fun _ _ _ _ _ _ us hl => match us, hl with | [_], _ => rfl) (T.glo 22) fun cdv A outer s H E G => ?_
  exact (dss_cons (ds_expr (de_call G.toGood (df_need_many T) (by decide) (da_cons (de_var (i := 0) rfl (.inl rfl)) da_nil))) (dss_cons (ds_own G.toGood.nd rfl (.inl rfl) (dl_lst da_nil)) (dss_cons (ds_for G (di_seq G.toGood.K (de_call G.toGood (df_rising_tuples T) (by decide) (da_cons (de_l (dl_listRange G.toGood (T.free 6) (T.free 9) (de_var (i := 0) rfl (.inl rfl)))) da_nil))) (dg_name (i := 2) G.toGood.nd rfl (.inr rfl)) (dss_one (ds_if (dt_cmp (cNe G.toGood.room) G.toGood.K (de_var (i := 2) rfl (.inr (.inl rfl))) (de_tup da_nil) (nomark _)) (dss_cons (ds_lcSet (ps_lc (own := [("one", 4)]) (i := 3) G.toGood rfl rfl (sw_true rfl rfl rfl (by decide +kernel)) (di_range2 (T.free 9) (da_cons (de_ix G.toGood.K (de_var (i := 2) rfl (.inr (.inl rfl))) de_int) (da_cons (de_var (i := 0) rfl (.inl rfl)) da_nil))) (blkOk_by (by kernel_rfl)) (fun _ _ _ _ _ => (dg_name (i := 4) G.toGood.nd rfl (.inl rfl))) (by decide) (fun _ _ _ _ _ G1 => (dts_one (dt_cmp (cNotIn G1.room) G1.K (de_var (i := 4) rfl (.inl rfl)) (de_var (i := 2) rfl (.inr (.inl rfl))) rfl))) (fun _ _ _ _ _ G1 => (de_var (i := 4) rfl (.inl rfl))))) (dss_one (ds_ext (i := 1) rfl (.inl rfl) (de_l (dl_lc (own := [("right", 5)]) G.toGood (di_seq G.toGood.K (de_call G.toGood (df_rising_tuples T) (by decide) (da_cons (de_var (i := 3) rfl (.inl rfl)) da_nil))) (blkOk_by (by kernel_rfl)) (fun _ _ _ _ _ => (dg_name (i := 5) G.toGood.nd rfl (.inl rfl))) (by decide) (fun _ _ _ _ _ G1 => (dts_one (dt_cmp (cEq G1.room) G1.K (de_len G1.K (T.free 5) (da_cons (de_var (i := 5) rfl (.inl rfl)) da_nil)) (de_len G1.K (T.free 5) (da_cons (de_var (i := 2) rfl (.inr (.inl rfl))) da_nil)) (nomark _)))) (fun _ _ _ _ _ G1 => (de_tup (da_cons (de_var (i := 2) rfl (.inr (.inl rfl))) (da_cons (de_var (i := 5) rfl (.inl rfl)) da_nil))))))))) dss_nil))) (dss_frz 1 (dss_one (ds_retL (dl_sorted G.toGood (T.free 11) (da_cons (de_var (i := 1) rfl (.inl rfl)) da_nil))))))))
/-! ### came -/
def c_came_1 : Env noObj → R (List D) := (lLc (iSeq (eVar 2)) (gN 5) tYesD (e2 dIx (eVar 1) (eVar 5)) [5])
def c_came_2 : Env noObj → R (List D) := (lLc (iSeq (eVar 3)) (gN 5) tYesD (e2 dIx (eVar 1) (eVar 5)) [5])
def g_came : GS noObj := (gSeq (gTgt (eVar 0) (gT 2 (gsC (gN 2) (gsC (gN 3) gsN)))) (gSeq (gSet 4 (e2 dSub (eA dSum (aCons (eL c_came_1) aNil)) (eA dSum (aCons (eL c_came_2) aNil)))) (gRet (e2 dSub (eA dInt (aCons (e2 dGt (eVar 4) (eC (.int 0))) aNil)) (eA dInt (aCons (e2 dLt (eVar 4) (eC (.int 0))) aNil))))))
def F_came : List D → R D := runF 6 g_came
theorem sc_came : FnScope ["weighing", "case", "left", "right", "more", "one"] ["weighing", "case"] (defScope (top 18)) := ⟨rfl, rfl, rfl, by decide +kernel, rfl, by decide +kernel, by decide +kernel⟩
theorem df_came (T : TF K mg) : Df P w K mg base (cA K) "came" 1 2 F_came := by
  obtain ⟨fd, FD⟩ := T.says.def_ 8 (d := dF "came" 18) rfl
  refine df_mk (B := noObj) (k := 0) (g := g_came) FD sc_came (FD.bindsN fun _ _ _ _ _ _ us hl => match us, hl with | [_, _], _ => rfl) (T.glo 23) fun cdv A outer s H E G => ?_
  exact (dss_cons (ds_tgt G.toGood.K (de_var (i := 0) rfl (.inl rfl)) (dg_tup G.toGood.calm (dgs_cons (dg_name (i := 2) G.toGood.nd rfl (.inl rfl)) (dgs_cons (dg_name (i := 3) G.toGood.nd rfl (.inl rfl)) dgs_nil)))) (dss_cons (ds_set G.toGood.nd rfl (.inl rfl) (de_sub (de_sum G.toGood.K G.toGood.calm (T.free 13) (da_cons (de_l (dl_lc (own := [("one", 5)]) G.toGood (di_seq G.toGood.K (de_var (i := 2) rfl (.inl rfl))) (blkOk_by (by kernel_rfl)) (fun _ _ _ _ _ => (dg_name (i := 5) G.toGood.nd rfl (.inl rfl))) (by decide) (fun _ _ _ _ _ G1 => dts_nil) (fun _ _ _ _ _ G1 => (de_ix G1.K (de_var (i := 1) rfl (.inr (.inl rfl))) (de_var (i := 5) rfl (.inl rfl)))))) da_nil)) (de_sum G.toGood.K G.toGood.calm (T.free 13) (da_cons (de_l (dl_lc (own := [("one", 5)]) G.toGood (di_seq G.toGood.K (de_var (i := 3) rfl (.inl rfl))) (blkOk_by (by kernel_rfl)) (fun _ _ _ _ _ => (dg_name (i := 5) G.toGood.nd rfl (.inl rfl))) (by decide) (fun _ _ _ _ _ G1 => dts_nil) (fun _ _ _ _ _ G1 => (de_ix G1.K (de_var (i := 1) rfl (.inr (.inl rfl))) (de_var (i := 5) rfl (.inl rfl)))))) da_nil)))) (dss_one (ds_ret (de_sub (de_intc (T.free 3) (da_cons (de_cmp cGt G.toGood.K (de_var (i := 4) rfl (.inl rfl)) de_int (nomark _)) da_nil)) (de_intc (T.free 3) (da_cons (de_cmp cLt G.toGood.K (de_var (i := 4) rfl (.inl rfl)) de_int (nomark _)) da_nil)))))))
/-! ### threes -/
def g_threes_L1 : GS noObj := (gSet 1 (e2 dMul (eC (.int 3)) (eVar 1)))
def g_threes : GS noObj := (gSeq (gSet 1 (eC (.int 1))) (gSeq (gFor (iRng1 (aCons (eVar 0) aNil)) (gN 2) g_threes_L1) (gRet (eVar 1))))
def F_threes : List D → R D := runF 3 g_threes
theorem sc_threes : FnScope ["number", "found", "turn"] ["number"] (defScope (top 21)) := ⟨rfl, rfl, rfl, by decide +kernel, rfl, by decide +kernel, by decide +kernel⟩
theorem df_threes (T : TF K mg) : Df P w K mg base (cA K) "threes" 1 1 F_threes := by
  obtain ⟨fd, FD⟩ := T.says.def_ 9 (d := dF "threes" 21) rfl
  refine df_mk (B := noObj) (k := 0) (g := g_threes) FD sc_threes (FD.bindsN fun _ _ _ _ _ _ us hl => match us, hl with | [_], _ => rfl) (T.glo 24) fun cdv A outer s H E G => ?_
  exact (dss_cons (ds_set G.toGood.nd rfl (.inl rfl) de_int) (dss_cons (ds_for G (di_range1 (T.free 9) (da_cons (de_var (i := 0) rfl (.inl rfl)) da_nil)) (dg_name (i := 2) G.toGood.nd rfl (.inl rfl)) (dss_one (ds_set G.toGood.nd rfl (.inl rfl) (de_mul G.toGood.K de_int (de_var (i := 1) rfl (.inl rfl)))))) (dss_one (ds_ret (de_var (i := 1) rfl (.inl rfl))))))
/-! ### is_many -/
def g_is_many : GS noObj := (gRet (e2 dGt (eA dLen (aCons (eVar 0) aNil)) (eCall 1 F_threes (aCons (eVar 1) aNil))))
def F_is_many : List D → R D := runF 2 g_is_many
theorem sc_is_many : FnScope ["cases", "number"] ["cases", "number"] (defScope (top 22)) := ⟨rfl, rfl, rfl, by decide +kernel, rfl, by decide +kernel, by decide +kernel⟩
theorem df_is_many (T : TF K mg) : Df P w K mg base (cA K) "is_many" 2 2 F_is_many := by
  obtain ⟨fd, FD⟩ := T.says.def_ 10 (d := dF "is_many" 22) rfl
  refine df_mk (B := noObj) (k := 1) (g := g_is_many) FD sc_is_many (FD.bindsN fun _ _ _ _ _ _ us hl => match us, hl with | [_, _], _ => rfl) (T.glo 25) fun cdv A outer s H E G => ?_
  exact (dss_one (ds_ret (de_cmp cGt G.toGood.K (de_len G.toGood.K (T.free 5) (da_cons (de_var (i := 0) rfl (.inl rfl)) da_nil)) (de_call G.toGood (df_threes T) (by decide) (da_cons (de_var (i := 1) rfl (.inl rfl)) da_nil)) (nomark _))))
/-! ### is_done -/
def g_is_done : GS noObj := (gSeq (gIf (tOrD (tNotD (tV (e1 (dIsi "tuple") (eVar 1)))) (tV (e2 dNe (eA dLen (aCons (eVar 1) aNil)) (eC (.int 2))))) (gRet (eC (.bool false))) gNil) (gRet (eAnd (eCall 2 F_is_weighing (aCons (eVar 0) (aCons (e2 dIx (eVar 1) (eC (.int 0))) aNil))) (eCall 3 F_is_among (aCons (e2 dIx (eVar 1) (eC (.int 1))) (aCons (e1 dNeg (eC (.int 1))) (aCons (eC (.int 1)) aNil)))))))
def F_is_done : List D → R D := runF 2 g_is_done
theorem sc_is_done : FnScope ["many", "thing"] ["many", "thing"] (defScope (top 25)) := ⟨rfl, rfl, rfl, by decide +kernel, rfl, by decide +kernel, by decide +kernel⟩
theorem df_is_done (T : TF K mg) : Df P w K mg base (cA K) "is_done" 4 2 F_is_done := by
  obtain ⟨fd, FD⟩ := T.says.def_ 11 (d := dF "is_done" 25) rfl
  refine df_mk (B := noObj) (k := 3) (g := g_is_done) FD sc_is_done (FD.bindsN fun _ _ _ _ _ _ us hl => match us, hl with | [_, _], _ => rfl) (T.glo 26) fun cdv A outer s H E G => ?_
  exact (dss_cons (ds_if (dt_w (dw_or (dt_not (dt_val (de_isi G.toGood.K (T.free 4) (T.free 14) boot_tupleT (de_var (i := 1) rfl (.inl rfl))))) (dw_or1 (dt_cmp (cNe G.toGood.room) G.toGood.K (de_len G.toGood.K (T.free 5) (da_cons (de_var (i := 1) rfl (.inl rfl)) da_nil)) de_int (nomark _))))) (dss_one (ds_ret de_bl)) dss_nil) (dss_one (ds_ret (de_and (de_call G.toGood (df_is_weighing T) (by decide) (da_cons (de_var (i := 0) rfl (.inl rfl)) (da_cons (de_ix G.toGood.K (de_var (i := 1) rfl (.inl rfl)) de_int) da_nil))) (de_one (de_call G.toGood (df_is_among T) (by decide) (da_cons (de_ix G.toGood.K (de_var (i := 1) rfl (.inl rfl)) de_int) (da_cons (de_neg de_int) (da_cons de_int da_nil)))))))))
/-! ### need_done -/
def g_need_done_L1 : GS noObj := (gIf (tNotD (tV (eCall 2 F_is_done (aCons (eVar 0) (aCons (eVar 2) aNil))))) (gExc 3) gNil)
def g_need_done : GS noObj := (gSeq (gIf (tOrD (tNotD (tV (e1 (dIsi "list") (eVar 1)))) (tV (e2 dGt (eA dLen (aCons (eVar 1) aNil)) (eC (.int 20))))) (gExc 3) gNil) (gFor (iSeq (eVar 1)) (gN 2) g_need_done_L1))
def F_need_done : List D → R D := runF 3 g_need_done
theorem sc_need_done : FnScope ["many", "done", "thing"] ["many", "done"] (defScope (top 26)) := ⟨rfl, rfl, rfl, by decide +kernel, rfl, by decide +kernel, by decide +kernel⟩
theorem df_need_done (T : TF K mg) : Df P w K mg base (cA K) "need_done" 5 2 F_need_done := by
  obtain ⟨fd, FD⟩ := T.says.def_ 12 (d := dF "need_done" 26) rfl
  refine df_mk (B := noObj) (k := 4) (g := g_need_done) FD sc_need_done (FD.bindsN fun _ _ _ _ _ _ us hl => match us, hl with | [_, _], _ => rfl) (T.glo 27) fun cdv A outer s H E G => ?_
  exact (dss_cons (ds_if (dt_w (dw_or (dt_not (dt_val (de_isi G.toGood.K (T.free 4) (T.free 6) boot_listT (de_var (i := 1) rfl (.inl rfl))))) (dw_or1 (dt_cmp cGt G.toGood.K (de_len G.toGood.K (T.free 5) (da_cons (de_var (i := 1) rfl (.inl rfl)) da_nil)) (de_gint (T.int 65)) (nomark _))))) (dss_one (ds_raise (n := 3) G (T.exc rfl rfl 72 73))) dss_nil) (dss_one (ds_for G (di_seq G.toGood.K (de_var (i := 1) rfl (.inl rfl))) (dg_name (i := 2) G.toGood.nd rfl (.inl rfl)) (dss_one (ds_if (dt_not (dt_val (de_call G.toGood (df_is_done T) (by decide) (da_cons (de_var (i := 0) rfl (.inl rfl)) (da_cons (de_var (i := 2) rfl (.inl rfl)) da_nil))))) (dss_one (ds_raise (n := 3) G (T.exc rfl rfl 72 73))) dss_nil)))))
/-! ### still_open -/
def c_still_open_1 : Env noObj → R (List D) := (lLc (iSeq (eVar 2)) (gT 2 (gsC (gN 4) (gsC (gN 5) gsN))) tYesD (e2 dEq (eCall 2 F_came (aCons (eVar 4) (aCons (eVar 3) aNil))) (eVar 5)) [4, 5])
def c_still_open_2 : Env noObj → R (List D) := (lLc (iSeq (eVar 1)) (gN 3) (tV (eA dAll (aCons (eL c_still_open_1) aNil))) (eVar 3) [3])
def g_still_open : GS noObj := (gSeq (gDrop (eCall 2 F_need_cases (aCons (eVar 0) (aCons (eVar 1) aNil)))) (gSeq (gDrop (eCall 2 F_need_done (aCons (eVar 0) (aCons (eVar 2) aNil)))) (gRetL c_still_open_2)))
def F_still_open : List D → R (List D) := runL 6 g_still_open
theorem sc_still_open : FnScope ["many", "cases", "done", "case", "weighing", "due"] ["many", "cases", "done"] (defScope (top 27)) := ⟨rfl, rfl, rfl, by decide +kernel, rfl, by decide +kernel, by decide +kernel⟩
theorem df_still_open (T : TF K mg) : DfL P w K mg base (cA K) "still_open" 6 3 F_still_open := by
  obtain ⟨fd, FD⟩ := T.says.def_ 13 (d := dF "still_open" 27) rfl
  refine dfl_mk (B := noObj) (k := 5) (g := g_still_open) FD sc_still_open (FD.bindsN fun _ _ _ _ _ _ us hl => match us, hl with | [_, _, _], _ => rfl) (T.glo 28) fun cdv A outer s H E G => ?_
  exact (dss_cons (ds_expr (de_call G.toGood (df_need_cases T) (by decide) (da_cons (de_var (i := 0) rfl (.inl rfl)) (da_cons (de_var (i := 1) rfl (.inl rfl)) da_nil)))) (dss_cons (ds_expr (de_call G.toGood (df_need_done T) (by decide) (da_cons (de_var (i := 0) rfl (.inl rfl)) (da_cons (de_var (i := 2) rfl (.inr (.inl rfl))) da_nil)))) (dss_one (ds_retL (dl_lc (own := [("case", 3)]) G.toGood (di_seq G.toGood.K (de_var (i := 1) rfl (.inl rfl))) (blkOk_by (by kernel_rfl)) (fun _ _ _ _ _ => (dg_name (i := 3) G.toGood.nd rfl (.inr rfl))) (by decide) (fun _ _ _ _ _ G1 => (dts_one (dt_val (de_all G1.K G1.calm (T.free 0) (da_cons (de_l (dl_lc (own := [("weighing", 4), ("due", 5)]) G1 (di_seq G1.K (de_var (i := 2) rfl (.inr (.inl rfl)))) (blkOk_by (by kernel_rfl)) (fun _ _ _ _ _ => (dg_tup G1.calm (dgs_cons (dg_name (i := 4) G1.nd rfl (.inl rfl)) (dgs_cons (dg_name (i := 5) G1.nd rfl (.inl rfl)) dgs_nil)))) (by decide) (fun _ _ _ _ _ G2 => dts_nil) (fun _ _ _ _ _ G2 => (de_cmp (cEq G2.room) G2.K (de_call G2 (df_came T) (by decide) (da_cons (de_var (i := 4) rfl (.inl rfl)) (da_cons (de_var (i := 3) rfl (.inr (.inl rfl))) da_nil))) (de_var (i := 5) rfl (.inl rfl)) (nomark _))))) da_nil))))) (fun _ _ _ _ _ G1 => (de_var (i := 3) rfl (.inr (.inl rfl)))))))))
/-! ### @__init__ -/
def c_m___init___1 : Env selfB → R (List D) := (lLc (iSeq (eVar 2)) (gN 4) tYesD (eCall 2 F_came (aCons (eVar 3) (aCons (eVar 4) aNil))) [4])
def c_m___init___2 : Env selfB → R (List D) := (lLc (iSeq (ePans 0)) (gN 3) tYesD (eL c_m___init___1) [3])
def f2_init : Env selfB → R D := (eCall 1 (listR F_leading) (aCons (eVar 1) aNil))
def f3_init : Env selfB → R (List D) := c_m___init___2
def newS : List D → R D := newD 5 f2_init f3_init
theorem sc_init : FnScope ["self", "many", "cases", "weighing", "case"] ["self", "many", "cases"] (defScope (mth 0)) := ⟨rfl, rfl, rfl, by decide +kernel, rfl, by decide +kernel, by decide +kernel⟩
theorem init_Search (T : TF K mg) : InitF P w K mg base (He.ma K (clsS K) "__init__") 4 5 f2_init f3_init := by
  obtain ⟨fd, FD⟩ := T.says.def_ 33 (d := dM "__init__" "Search.__init__" 0) rfl
  refine ⟨fd, ["self", "many", "cases"], init_ok (cA := cA K) (N := ["self", "many", "cases", "weighing", "case"]) (k := 3) (f2 := f2_init) (f3 := f3_init) FD sc_init rfl (by decide) (clsF T) (noF_cases T) (noF_pans T) (noF_rows T) (noF_known T) (fun cdv A outer s H E G => ?_) (fun _ _ _ _ _ _ => ⟨rfl, rfl, rfl, rfl⟩), (FD.bindsN (ps := ["self", "many", "cases"]) fun _ _ _ _ _ _ us hl => match us, hl with | [_, _, _], _ => rfl)⟩
  exact ⟨(pe_var (i := 0) rfl (.inl rfl)), (pe_var (i := 0) rfl (.inl rfl)), (pe_var (i := 0) rfl (.inl rfl)), (pe_var (i := 0) rfl (.inl rfl)), (pe_var (i := 2) rfl (.inr (.inl rfl))), (de_call G.toGood (DfS.toD (df_leading T)) (by decide) (da_cons (de_var (i := 1) rfl (.inl rfl)) da_nil)), (dl_lc (own := [("weighing", 3)]) G.toGood (di_seq G.toGood.K (de_pans G.toGood.K (clsF T) (noF_pans T) (pe_var (i := 0) rfl (.inl rfl)))) (blkOk_by (by kernel_rfl)) (fun _ _ _ _ _ => (dg_name (i := 3) G.toGood.nd rfl (.inr rfl))) (by decide) (fun _ _ _ _ _ G1 => dts_nil) (fun _ _ _ _ _ G1 => (de_l (dl_lc (own := [("case", 4)]) G1 (di_seq G1.K (de_var (i := 2) rfl (.inr (.inl rfl)))) (blkOk_by (by kernel_rfl)) (fun _ _ _ _ _ => (dg_name (i := 4) G1.nd rfl (.inl rfl))) (by decide) (fun _ _ _ _ _ G2 => dts_nil) (fun _ _ _ _ _ G2 => (de_call G2 (df_came T) (by decide) (da_cons (de_var (i := 3) rfl (.inr (.inl rfl))) (da_cons (de_var (i := 4) rfl (.inl rfl)) da_nil))))))))⟩
/-! ### @alike -/
def c_m_alike_1 : Env noObj → R (List D) := (lLc (iSeq (e1 (dFld 2) (eVar 0))) (gN 3) tYesD (e2 dIx (eVar 3) (eVar 2)) [3])
def c_m_alike_2 : Env noObj → R (List D) := (lLc (iRng1 (aCons (eA dLen (aCons (e1 (dFld 0) (eVar 0)) aNil)) aNil)) (gN 2) tYesD (eL c_m_alike_1) [2])
def g_m_alike_L1 : GS noObj := (gIf (tV (e2 dIn (e2 dIx (eVar 1) (eVar 2)) (eSl (eVar 1) oNone (oSome (eVar 2))))) (gRet (eTup (aCons (e2 dIx (e1 (dFld 0) (eVar 0)) (e2 dIndex (eVar 1) (e2 dIx (eVar 1) (eVar 2)))) (aCons (e2 dIx (e1 (dFld 0) (eVar 0)) (eVar 2)) aNil)))) gNil)
def g_m_alike : GS noObj := (gSeq (gSet 1 (eL c_m_alike_2)) (gSeq (gFor (iRng1 (aCons (eA dLen (aCons (eVar 1) aNil)) aNil)) (gN 2) g_m_alike_L1) (gRet (eC .none))))
def F_m_alike : List D → R D := runF 4 g_m_alike
theorem sc_m_alike : FnScope ["self", "columns", "k", "row"] ["self"] (defScope (mth 6)) := ⟨rfl, rfl, rfl, by decide +kernel, rfl, by decide +kernel, by decide +kernel⟩
theorem dm_alike (T : TF K mg) : DfM P w K mg base (cA K) "alike" 1 1 F_m_alike := by
  obtain ⟨fd, FD⟩ := T.says.def_ 39 (d := dM "alike" "Search.alike" 6) rfl
  refine dm_mk (B := noObj) (N := ["self", "columns", "k", "row"]) (ps := ["self"]) (k := 0) (g := g_m_alike) FD sc_m_alike (FD.bindsN (ps := ["self"]) fun _ _ _ _ _ _ us hl => match us, hl with | [_], _ => rfl) (He.meth_ok (T.says.fact 60 rfl)) fun cdv A outer s H E G => ?_
  exact (dss_cons (ds_lcSet (ps_lc (own := [("k", 2)]) (i := 1) G.toGood rfl rfl (sw_true rfl rfl rfl (by decide +kernel)) (di_range1 (T.free 9) (da_cons (de_len G.toGood.K (T.free 5) (da_cons (de_fld (k := 0) G.toGood.K (clsF T) (noF_cases T) (de_var (i := 0) rfl (.inr (.inl rfl)))) da_nil)) da_nil)) (blkOk_by (by kernel_rfl)) (fun _ _ _ _ _ => (dg_name (i := 2) G.toGood.nd rfl (.inr rfl))) (by decide) (fun _ _ _ _ _ G1 => dts_nil) (fun _ _ _ _ _ G1 => (de_l (dl_lc (own := [("row", 3)]) G1 (di_seq G1.K (de_fld (k := 2) G1.K (clsF T) (noF_rows T) (de_var (i := 0) rfl (.inr (.inl rfl))))) (blkOk_by (by kernel_rfl)) (fun _ _ _ _ _ => (dg_name (i := 3) G1.nd rfl (.inl rfl))) (by decide) (fun _ _ _ _ _ G2 => dts_nil) (fun _ _ _ _ _ G2 => (de_ix G2.K (de_var (i := 3) rfl (.inl rfl)) (de_var (i := 2) rfl (.inr (.inl rfl)))))))))) (dss_cons (ds_for G (di_range1 (T.free 9) (da_cons (de_len G.toGood.K (T.free 5) (da_cons (de_var (i := 1) rfl (.inl rfl)) da_nil)) da_nil)) (dg_name (i := 2) G.toGood.nd rfl (.inl rfl)) (dss_one (ds_if (dt_cmp (cIn G.toGood.room) G.toGood.K (de_ix G.toGood.K (de_var (i := 1) rfl (.inl rfl)) (de_var (i := 2) rfl (.inl rfl))) (de_sl G.toGood.K (de_var (i := 1) rfl (.inl rfl)) do_none (do_some (de_var (i := 2) rfl (.inl rfl)))) rfl) (dss_one (ds_ret (de_tup (da_cons (de_ix G.toGood.K (de_fld (k := 0) G.toGood.K (clsF T) (noF_cases T) (de_var (i := 0) rfl (.inr (.inl rfl)))) (de_index G.toGood (de_var (i := 1) rfl (.inl rfl)) (de_ix G.toGood.K (de_var (i := 1) rfl (.inl rfl)) (de_var (i := 2) rfl (.inl rfl))) (hm := fun h1 h2 => pe_bm PySem.F.plainAttrs_list PySem.F.slot_list_index PySem.F.type_list_index (mt_indexD (units65 G.toGood.room)) h1 h2))) (da_cons (de_ix G.toGood.K (de_fld (k := 0) G.toGood.K (clsF T) (noF_cases T) (de_var (i := 0) rfl (.inr (.inl rfl)))) (de_var (i := 2) rfl (.inl rfl))) da_nil))))) dss_nil))) (dss_one (ds_ret de_non))))
/-! ### @parts -/
def c_m_parts_1 : Env noObj → R (List D) := (lLc (iSeq (eVar 2)) (gN 4) (tV (e2 dEq (e2 dIx (eVar 1) (eVar 4)) (eVar 3))) (eVar 4) [4])
def c_m_parts_2 : Env noObj → R (List D) := (lLc (iSeq (eC (.tuple (([-1, 0, 1] : List Int).map PyData.int)))) (gN 3) tYesD (eA dTuple (aCons (eL c_m_parts_1) aNil)) [3])
def g_m_parts : GS noObj := (gRet (eL c_m_parts_2))
def F_m_parts : List D → R D := runF 5 g_m_parts
theorem sc_m_parts : FnScope ["self", "row", "some", "due", "k"] ["self", "row", "some"] (defScope (mth 1)) := ⟨rfl, rfl, rfl, by decide +kernel, rfl, by decide +kernel, by decide +kernel⟩
theorem dm_parts (T : TF K mg) : DfM P w K mg base (cA K) "parts" 1 3 F_m_parts := by
  obtain ⟨fd, FD⟩ := T.says.def_ 34 (d := dM "parts" "Search.parts" 1) rfl
  refine dm_mk (B := noObj) (N := ["self", "row", "some", "due", "k"]) (ps := ["self", "row", "some"]) (k := 0) (g := g_m_parts) FD sc_m_parts (FD.bindsN (ps := ["self", "row", "some"]) fun _ _ _ _ _ _ us hl => match us, hl with | [_, _, _], _ => rfl) (He.meth_ok (T.says.fact 55 rfl)) fun cdv A outer s H E G => ?_
  exact (dss_one (ds_ret (de_l (dl_lc (own := [("due", 3)]) G.toGood (di_seq G.toGood.K (de_gtup (tup_OUTCOMES T) (T.glo 74))) (blkOk_by (by kernel_rfl)) (fun _ _ _ _ _ => (dg_name (i := 3) G.toGood.nd rfl (.inr rfl))) (by decide) (fun _ _ _ _ _ G1 => dts_nil) (fun _ _ _ _ _ G1 => (de_tuple G1.K (T.free 14) (da_cons (de_l (dl_lc (own := [("k", 4)]) G1 (di_seq G1.K (de_var (i := 2) rfl (.inr (.inl rfl)))) (blkOk_by (by kernel_rfl)) (fun _ _ _ _ _ => (dg_name (i := 4) G1.nd rfl (.inl rfl))) (by decide) (fun _ _ _ _ _ G2 => (dts_one (dt_cmp (cEq G2.room) G2.K (de_ix G2.K (de_var (i := 1) rfl (.inr (.inl rfl))) (de_var (i := 4) rfl (.inl rfl))) (de_var (i := 3) rfl (.inr (.inl rfl))) (nomark _)))) (fun _ _ _ _ _ G2 => (de_var (i := 4) rfl (.inl rfl))))) da_nil)))))))
/-! ### @fits -/
def g_m_fits (R_m_fits R_m_first : List D → R D) : GS noObj := (gSeq (gIf (tV (e2 dLt (eA dLen (aCons (eVar 1) aNil)) (eC (.int 2)))) (gRet (eC (.bool true))) gNil) (gSeq (gIf (tV (eCall 2 F_is_many (aCons (eVar 1) (aCons (eVar 2) aNil)))) (gRet (eC (.bool false))) gNil) (gMemo 0 1 2 (e2 dIsNot (eMeth 3 R_m_first (eVar 0) (aCons (eVar 1) (aCons (eVar 2) aNil))) (eC .none)))))
theorem sc_m_fits : FnScope ["self", "some", "number"] ["self", "some", "number"] (defScope (mth 2)) := ⟨rfl, rfl, rfl, by decide +kernel, rfl, by decide +kernel, by decide +kernel⟩
/-! ### @first -/
def c_m_first_1 (R_m_fits R_m_first : List D → R D) : Env noObj → R (List D) := (lLc (iSeq (eVar 5)) (gN 6) tYesD (eMeth 3 R_m_fits (eVar 0) (aCons (eVar 6) (aCons (e2 dSub (eVar 2) (eC (.int 1))) aNil))) [6])
def g_m_first_L1 (R_m_fits R_m_first : List D → R D) : GS noObj := (gSeq (gSet 5 (eMeth 3 F_m_parts (eVar 0) (aCons (eVar 4) (aCons (eVar 1) aNil)))) (gIf (tAndD (tV (e2 dNotIn (eVar 1) (eVar 5))) (tV (eA dAll (aCons (eL (c_m_first_1 R_m_fits R_m_first)) aNil)))) (gRet (eVar 3)) gNil))
def g_m_first (R_m_fits R_m_first : List D → R D) : GS noObj := (gSeq (gFor (iEnumD (aCons (e1 (dFld 2) (eVar 0)) aNil)) (gT 2 (gsC (gN 3) (gsC (gN 4) gsN))) (g_m_first_L1 R_m_fits R_m_first)) (gRet (eC .none)))
theorem sc_m_first : FnScope ["self", "some", "number", "at", "row", "parts", "part"] ["self", "some", "number"] (defScope (mth 3)) := ⟨rfl, rfl, rfl, by decide +kernel, rfl, by decide +kernel, by decide +kernel⟩
def FF_m_fits : Nat → (List D → R D) × (List D → R D)
  | 0 => (fun _ => .stuck, fun _ => .stuck)
  | n + 1 => (runF 3 (g_m_fits (FF_m_fits n).1 (FF_m_fits n).2), runF 7 (g_m_first (FF_m_fits n).1 (FF_m_fits n).2))
def F_m_fits (n : Nat) : List D → R D := (FF_m_fits n).1
def F_m_first (n : Nat) : List D → R D := (FF_m_fits n).2
theorem dfs_m_fits (T : TF K mg) : ∀ n, DfM P w K mg base (cA K) "fits" (2 + n) 3 (F_m_fits n) ∧ DfM P w K mg base (cA K) "first" (2 + n) 3 (F_m_first n)
  | 0 => by
    refine ⟨?_, ?_⟩
    · obtain ⟨fd, FD⟩ := T.says.def_ 35 (d := dM "fits" "Search.fits" 2) rfl
      exact dm_stuck FD (FD.bindsN (ps := ["self", "some", "number"]) fun _ _ _ _ _ _ us hl => match us, hl with | [_, _, _], _ => rfl) (He.meth_ok (T.says.fact 56 rfl))
    · obtain ⟨fd, FD⟩ := T.says.def_ 36 (d := dM "first" "Search.first" 3) rfl
      exact dm_stuck FD (FD.bindsN (ps := ["self", "some", "number"]) fun _ _ _ _ _ _ us hl => match us, hl with | [_, _, _], _ => rfl) (He.meth_ok (T.says.fact 57 rfl))
  | n + 1 => by
    obtain ⟨IH_m_fits, IH_m_first⟩ := dfs_m_fits T n
    refine ⟨?_, ?_⟩
    · obtain ⟨fd, FD⟩ := T.says.def_ 35 (d := dM "fits" "Search.fits" 2) rfl
      refine dm_mk (B := noObj) (N := ["self", "some", "number"]) (ps := ["self", "some", "number"]) (k := 2 + n) (g := g_m_fits (F_m_fits n) (F_m_first n)) FD sc_m_fits (FD.bindsN (ps := ["self", "some", "number"]) fun _ _ _ _ _ _ us hl => match us, hl with | [_, _, _], _ => rfl) (He.meth_ok (T.says.fact 56 rfl)) fun cdv A outer s H E G => ?_
      exact (dss_cons (ds_if (dt_cmp cLt G.toGood.K (de_len G.toGood.K (T.free 5) (da_cons (de_var (i := 1) rfl (.inl rfl)) da_nil)) de_int (nomark _)) (dss_one (ds_ret de_bl)) dss_nil) (dss_cons (ds_if (dt_val (de_call G.toGood (df_is_many T) (by omega) (da_cons (de_var (i := 1) rfl (.inl rfl)) (da_cons (de_var (i := 2) rfl (.inl rfl)) da_nil)))) (dss_one (ds_ret de_bl)) dss_nil) (dss_memo G.toGood.K (units65 G.toGood.room) (clsF T) (noF_known T) (pe_tup (pa_cons (pe_var (i := 1) rfl (.inl rfl)) (pa_cons (pe_var (i := 2) rfl (.inl rfl)) pa_nil))) (pe_tup (pa_cons (pe_var (i := 1) rfl (.inl rfl)) (pa_cons (pe_var (i := 2) rfl (.inl rfl)) pa_nil))) (pe_tup (pa_cons (pe_var (i := 1) rfl (.inl rfl)) (pa_cons (pe_var (i := 2) rfl (.inl rfl)) pa_nil))) (pe_fld (pe_var (i := 0) rfl (.inl rfl)) rfl) (pe_fld (pe_var (i := 0) rfl (.inl rfl)) rfl) (pe_fld (pe_var (i := 0) rfl (.inl rfl)) rfl) (de_cmp cIsNot G.toGood.K (de_meth G.toGood (clsF T) IH_m_first (Nat.le_refl _) (de_var (i := 0) rfl (.inl rfl)) (da_cons (de_var (i := 1) rfl (.inl rfl)) (da_cons (de_var (i := 2) rfl (.inl rfl)) da_nil))) de_non (nomark _)))))
    · obtain ⟨fd, FD⟩ := T.says.def_ 36 (d := dM "first" "Search.first" 3) rfl
      refine dm_mk (B := noObj) (N := ["self", "some", "number", "at", "row", "parts", "part"]) (ps := ["self", "some", "number"]) (k := 2 + n) (g := g_m_first (F_m_fits n) (F_m_first n)) FD sc_m_first (FD.bindsN (ps := ["self", "some", "number"]) fun _ _ _ _ _ _ us hl => match us, hl with | [_, _, _], _ => rfl) (He.meth_ok (T.says.fact 57 rfl)) fun cdv A outer s H E G => ?_
      exact (dss_cons (ds_for G (di_enum G.toGood.K (T.free 2) (da_cons (de_fld (k := 2) G.toGood.K (clsF T) (noF_rows T) (de_var (i := 0) rfl (.inr (.inl rfl)))) da_nil)) (dg_tup G.toGood.calm (dgs_cons (dg_name (i := 3) G.toGood.nd rfl (.inl rfl)) (dgs_cons (dg_name (i := 4) G.toGood.nd rfl (.inl rfl)) dgs_nil))) (dss_cons (ds_set G.toGood.nd rfl (.inl rfl) (de_meth G.toGood (clsF T) (dm_parts T) (by omega) (de_var (i := 0) rfl (.inr (.inl rfl))) (da_cons (de_var (i := 4) rfl (.inl rfl)) (da_cons (de_var (i := 1) rfl (.inl rfl)) da_nil)))) (dss_one (ds_if (dt_w (dw_and (dt_cmp (cNotIn G.toGood.room) G.toGood.K (de_var (i := 1) rfl (.inl rfl)) (de_var (i := 5) rfl (.inl rfl)) rfl) (dw_and1 (dt_val (de_all G.toGood.K G.toGood.calm (T.free 0) (da_cons (de_l (dl_lc (own := [("part", 6)]) G.toGood (di_seq G.toGood.K (de_var (i := 5) rfl (.inl rfl))) (blkOk_by (by kernel_rfl)) (fun _ _ _ _ _ => (dg_name (i := 6) G.toGood.nd rfl (.inl rfl))) (by decide) (fun _ _ _ _ _ G1 => dts_nil) (fun _ _ _ _ _ G1 => (de_meth G1 (clsF T) IH_m_fits (Nat.le_refl _) (de_var (i := 0) rfl (.inr (.inl rfl))) (da_cons (de_var (i := 6) rfl (.inl rfl)) (da_cons (de_sub (de_var (i := 2) rfl (.inr (.inl rfl))) de_int) da_nil)))))) da_nil)))))) (dss_one (ds_ret (de_var (i := 3) rfl (.inl rfl)))) dss_nil)))) (dss_one (ds_ret de_non)))
theorem dm_fits (T : TF K mg) (n : Nat) : DfM P w K mg base (cA K) "fits" (2 + n) 3 (F_m_fits n) := (dfs_m_fits T n).1
theorem dm_first (T : TF K mg) (n : Nat) : DfM P w K mg base (cA K) "first" (2 + n) 3 (F_m_first n) := (dfs_m_fits T n).2
/-! ### @least -/
def g_m_least_L1 : GS noObj := (gSet 1 (e2 dAdd (eVar 1) (eC (.int 1))))
def g_m_least : GS noObj := (gSeq (gSet 1 (eC (.int 0))) (gSeq (whileF (tNotD (tV (eMeth 3 (F_m_fits 60) (eVar 0) (aCons (eTupRange (eA dLen (aCons (e1 (dFld 0) (eVar 0)) aNil))) (aCons (eVar 1) aNil))))) g_m_least_L1 60) (gRet (eVar 1))))
def F_m_least : List D → R D := runF 2 g_m_least
theorem sc_m_least : FnScope ["self", "number"] ["self"] (defScope (mth 7)) := ⟨rfl, rfl, rfl, by decide +kernel, rfl, by decide +kernel, by decide +kernel⟩
theorem dm_least (T : TF K mg) : DfM P w K mg base (cA K) "least" 63 1 F_m_least := by
  obtain ⟨fd, FD⟩ := T.says.def_ 40 (d := dM "least" "Search.least" 7) rfl
  refine dm_mk (B := noObj) (N := ["self", "number"]) (ps := ["self"]) (k := 62) (g := g_m_least) FD sc_m_least (FD.bindsN (ps := ["self"]) fun _ _ _ _ _ _ us hl => match us, hl with | [_], _ => rfl) (He.meth_ok (T.says.fact 61 rfl)) fun cdv A outer s H E G => ?_
  exact (dss_cons (ds_set G.toGood.nd rfl (.inl rfl) de_int) (dss_cons (ds_while 60 G (dt_not (dt_val (de_meth G.toGood (clsF T) (dm_fits T 60) (by decide) (de_var (i := 0) rfl (.inl rfl)) (da_cons (de_tupRange G.toGood (T.free 14) (T.free 9) (de_len G.toGood.K (T.free 5) (da_cons (de_fld (k := 0) G.toGood.K (clsF T) (noF_cases T) (de_var (i := 0) rfl (.inl rfl))) da_nil))) (da_cons (de_var (i := 1) rfl (.inl rfl)) da_nil))))) (dss_one (ds_set G.toGood.nd rfl (.inl rfl) (de_add G.toGood.K (de_var (i := 1) rfl (.inl rfl)) de_int)))) (dss_one (ds_ret (de_var (i := 1) rfl (.inl rfl))))))
/-! ### @hold -/
def c_m_hold_1 (R_m_hold : List D → R D) : Env noObj → R (List D) := (lLc (iRng1 (aCons (eC (.int 3)) aNil)) (gN 7) (tNotD (tV (eMeth 3 (F_m_fits 60) (eVar 0) (aCons (e2 dIx (eVar 5) (eVar 7)) (aCons (e2 dSub (eVar 2) (eC (.int 1))) aNil))))) (eVar 7) [7])
def g_m_hold_L1 (R_m_hold : List D → R D) : GS noObj := (gSeq (gSet 5 (eMeth 3 F_m_parts (eVar 0) (aCons (eVar 4) (aCons (eVar 1) aNil)))) (gSeq (gSet 6 (e2 dIx (eL (c_m_hold_1 R_m_hold)) (eC (.int 0)))) (gApp 3 (eTup (aCons (e2 dIx (eC (.tuple (([-1, 0, 1] : List Int).map PyData.int))) (eVar 6)) (aCons (eMeth 3 R_m_hold (eVar 0) (aCons (e2 dIx (eVar 5) (eVar 6)) (aCons (e2 dSub (eVar 2) (eC (.int 1))) aNil))) aNil))))))
def g_m_hold (R_m_hold : List D → R D) : GS noObj := (gSeq (gIf (tV (eCall 2 F_is_many (aCons (eVar 1) (aCons (eVar 2) aNil)))) (gRet (eTup (aCons (eC (.str (Str.ofString "many"))) aNil))) gNil) (gSeq (gOwn 3 (lDisp aNil)) (gSeq (gFor (iSeq (e1 (dFld 2) (eVar 0))) (gN 4) (g_m_hold_L1 R_m_hold)) (gFrz 3 (gRet (eTup (aCons (eC (.str (Str.ofString "each"))) (aCons (eA dTuple (aCons (eVar 3) aNil)) aNil))))))))
theorem sc_m_hold : FnScope ["self", "some", "number", "found", "row", "parts", "bad", "k"] ["self", "some", "number"] (defScope (mth 5)) := ⟨rfl, rfl, rfl, by decide +kernel, rfl, by decide +kernel, by decide +kernel⟩
def F_m_hold : Nat → List D → R D
  | 0 => fun _ => .stuck
  | n + 1 => runF 8 (g_m_hold (F_m_hold n))
theorem dfs_m_hold (T : TF K mg) : ∀ n, DfM P w K mg base (cA K) "hold" (62 + n) 3 (F_m_hold n)
  | 0 => by
    obtain ⟨fd, FD⟩ := T.says.def_ 38 (d := dM "hold" "Search.hold" 5) rfl
    exact dm_stuck FD (FD.bindsN (ps := ["self", "some", "number"]) fun _ _ _ _ _ _ us hl => match us, hl with | [_, _, _], _ => rfl) (He.meth_ok (T.says.fact 59 rfl))
  | n + 1 => by
    have IH_m_hold := dfs_m_hold T n
    obtain ⟨fd, FD⟩ := T.says.def_ 38 (d := dM "hold" "Search.hold" 5) rfl
    refine dm_mk (B := noObj) (N := ["self", "some", "number", "found", "row", "parts", "bad", "k"]) (ps := ["self", "some", "number"]) (k := 62 + n) (g := g_m_hold (F_m_hold n)) FD sc_m_hold (FD.bindsN (ps := ["self", "some", "number"]) fun _ _ _ _ _ _ us hl => match us, hl with | [_, _, _], _ => rfl) (He.meth_ok (T.says.fact 59 rfl)) fun cdv A outer s H E G => ?_
    exact (dss_cons (ds_if (dt_val (de_call G.toGood (df_is_many T) (by omega) (da_cons (de_var (i := 1) rfl (.inl rfl)) (da_cons (de_var (i := 2) rfl (.inr (.inl rfl))) da_nil)))) (dss_one (ds_ret (de_tup (da_cons de_str da_nil)))) dss_nil) (dss_cons (ds_own G.toGood.nd rfl (.inl rfl) (dl_lst da_nil)) (dss_cons (ds_for G (di_seq G.toGood.K (de_fld (k := 2) G.toGood.K (clsF T) (noF_rows T) (de_var (i := 0) rfl (.inr (.inl rfl))))) (dg_name (i := 4) G.toGood.nd rfl (.inl rfl)) (dss_cons (ds_set G.toGood.nd rfl (.inr rfl) (de_meth G.toGood (clsF T) (dm_parts T) (by omega) (de_var (i := 0) rfl (.inr (.inl rfl))) (da_cons (de_var (i := 4) rfl (.inl rfl)) (da_cons (de_var (i := 1) rfl (.inl rfl)) da_nil)))) (dss_cons (ds_set G.toGood.nd rfl (.inl rfl) (de_ix G.toGood.K (de_l (dl_lc (own := [("k", 7)]) G.toGood (di_range1 (T.free 9) (da_cons de_int da_nil)) (blkOk_by (by kernel_rfl)) (fun _ _ _ _ _ => (dg_name (i := 7) G.toGood.nd rfl (.inl rfl))) (by decide) (fun _ _ _ _ _ G1 => (dts_one (dt_not (dt_val (de_meth G1 (clsF T) (dm_fits T 60) (by omega) (de_var (i := 0) rfl (.inr (.inl rfl))) (da_cons (de_ix G1.K (de_var (i := 5) rfl (.inr (.inl rfl))) (de_var (i := 7) rfl (.inl rfl))) (da_cons (de_sub (de_var (i := 2) rfl (.inr (.inl rfl))) de_int) da_nil))))))) (fun _ _ _ _ _ G1 => (de_var (i := 7) rfl (.inl rfl))))) de_int)) (dss_one (ds_app (i := 3) rfl (.inl rfl) (de_tup (da_cons (de_ix G.toGood.K (de_gtup (tup_OUTCOMES T) (T.glo 74)) (de_var (i := 6) rfl (.inl rfl))) (da_cons (de_meth G.toGood (clsF T) IH_m_hold (Nat.le_refl _) (de_var (i := 0) rfl (.inr (.inl rfl))) (da_cons (de_ix G.toGood.K (de_var (i := 5) rfl (.inr (.inl rfl))) (de_var (i := 6) rfl (.inl rfl))) (da_cons (de_sub (de_var (i := 2) rfl (.inr (.inl rfl))) de_int) da_nil))) da_nil)))))))) (dss_frz 3 (dss_one (ds_ret (de_tup (da_cons de_str (da_cons (de_tuple G.toGood.K (T.free 14) (da_cons (de_var (i := 3) rfl (.inl rfl)) da_nil)) da_nil)))))))))
theorem dm_hold (T : TF K mg) (n : Nat) : DfM P w K mg base (cA K) "hold" (62 + n) 3 (F_m_hold n) := (dfs_m_hold T n)
/-! ### @plan -/
def g_m_plan_L1 (R_m_plan : List D → R D) : GS noObj := (gIf (tV (e2 dEq (eVar 5) (eTup aNil))) (gApp 4 (eC .none)) (gApp 4 (eMeth 3 R_m_plan (eVar 0) (aCons (eVar 5) (aCons (e2 dSub (eVar 2) (eC (.int 1))) aNil)))))
def g_m_plan (R_m_plan : List D → R D) : GS noObj := (gSeq (gIf (tV (e2 dEq (eA dLen (aCons (eVar 1) aNil)) (eC (.int 1)))) (gRet (eTup (aCons (eC (.str (Str.ofString "told"))) (aCons (e2 dIx (e1 (dFld 0) (eVar 0)) (e2 dIx (eVar 1) (eC (.int 0)))) aNil)))) gNil) (gSeq (gSet 3 (eMeth 3 (F_m_first 60) (eVar 0) (aCons (eVar 1) (aCons (eVar 2) aNil)))) (gSeq (gOwn 4 (lDisp aNil)) (gSeq (gFor (iSeq (eMeth 3 F_m_parts (eVar 0) (aCons (e2 dIx (e1 (dFld 2) (eVar 0)) (eVar 3)) (aCons (eVar 1) aNil)))) (gN 5) (g_m_plan_L1 R_m_plan)) (gFrz 4 (gRet (eTup (aCons (eC (.str (Str.ofString "weigh"))) (aCons (e2 dIx (e1 (dFld 1) (eVar 0)) (eVar 3)) (aCons (eA dTuple (aCons (eVar 4) aNil)) aNil))))))))))
theorem sc_m_plan : FnScope ["self", "some", "number", "at", "parts", "part"] ["self", "some", "number"] (defScope (mth 4)) := ⟨rfl, rfl, rfl, by decide +kernel, rfl, by decide +kernel, by decide +kernel⟩
def F_m_plan : Nat → List D → R D
  | 0 => fun _ => .stuck
  | n + 1 => runF 6 (g_m_plan (F_m_plan n))
theorem dfs_m_plan (T : TF K mg) : ∀ n, DfM P w K mg base (cA K) "plan" (62 + n) 3 (F_m_plan n)
  | 0 => by
    obtain ⟨fd, FD⟩ := T.says.def_ 37 (d := dM "plan" "Search.plan" 4) rfl
    exact dm_stuck FD (FD.bindsN (ps := ["self", "some", "number"]) fun _ _ _ _ _ _ us hl => match us, hl with | [_, _, _], _ => rfl) (He.meth_ok (T.says.fact 58 rfl))
  | n + 1 => by
    have IH_m_plan := dfs_m_plan T n
    obtain ⟨fd, FD⟩ := T.says.def_ 37 (d := dM "plan" "Search.plan" 4) rfl
    refine dm_mk (B := noObj) (N := ["self", "some", "number", "at", "parts", "part"]) (ps := ["self", "some", "number"]) (k := 62 + n) (g := g_m_plan (F_m_plan n)) FD sc_m_plan (FD.bindsN (ps := ["self", "some", "number"]) fun _ _ _ _ _ _ us hl => match us, hl with | [_, _, _], _ => rfl) (He.meth_ok (T.says.fact 58 rfl)) fun cdv A outer s H E G => ?_
    exact (dss_cons (ds_if (dt_cmp (cEq G.toGood.room) G.toGood.K (de_len G.toGood.K (T.free 5) (da_cons (de_var (i := 1) rfl (.inl rfl)) da_nil)) de_int (nomark _)) (dss_one (ds_ret (de_tup (da_cons de_str (da_cons (de_ix G.toGood.K (de_fld (k := 0) G.toGood.K (clsF T) (noF_cases T) (de_var (i := 0) rfl (.inl rfl))) (de_ix G.toGood.K (de_var (i := 1) rfl (.inl rfl)) de_int)) da_nil))))) dss_nil) (dss_cons (ds_set G.toGood.nd rfl (.inl rfl) (de_meth G.toGood (clsF T) (dm_first T 60) (by omega) (de_var (i := 0) rfl (.inl rfl)) (da_cons (de_var (i := 1) rfl (.inl rfl)) (da_cons (de_var (i := 2) rfl (.inl rfl)) da_nil)))) (dss_cons (ds_own G.toGood.nd rfl (.inl rfl) (dl_lst da_nil)) (dss_cons (ds_for G (di_seq G.toGood.K (de_meth G.toGood (clsF T) (dm_parts T) (by omega) (de_var (i := 0) rfl (.inl rfl)) (da_cons (de_ix G.toGood.K (de_fld (k := 2) G.toGood.K (clsF T) (noF_rows T) (de_var (i := 0) rfl (.inl rfl))) (de_var (i := 3) rfl (.inl rfl))) (da_cons (de_var (i := 1) rfl (.inl rfl)) da_nil)))) (dg_name (i := 5) G.toGood.nd rfl (.inl rfl)) (dss_one (ds_if (dt_cmp (cEq G.toGood.room) G.toGood.K (de_var (i := 5) rfl (.inl rfl)) (de_tup da_nil) (nomark _)) (dss_one (ds_app (i := 4) rfl (.inl rfl) de_non)) (dss_one (ds_app (i := 4) rfl (.inl rfl) (de_meth G.toGood (clsF T) IH_m_plan (Nat.le_refl _) (de_var (i := 0) rfl (.inl rfl)) (da_cons (de_var (i := 5) rfl (.inl rfl)) (da_cons (de_sub (de_var (i := 2) rfl (.inl rfl)) de_int) da_nil)))))))) (dss_frz 4 (dss_one (ds_ret (de_tup (da_cons de_str (da_cons (de_ix G.toGood.K (de_fld (k := 1) G.toGood.K (clsF T) (noF_pans T) (de_var (i := 0) rfl (.inl rfl))) (de_var (i := 3) rfl (.inl rfl))) (da_cons (de_tuple G.toGood.K (T.free 14) (da_cons (de_var (i := 4) rfl (.inl rfl)) da_nil)) da_nil)))))))))))
theorem dm_plan (T : TF K mg) (n : Nat) : DfM P w K mg base (cA K) "plan" (62 + n) 3 (F_m_plan n) := (dfs_m_plan T n)
/-! ### told -/
def g_told : GS noObj := (gSeq (gSet 3 (eCall 3 (listR F_still_open) (aCons (eVar 0) (aCons (eVar 1) (aCons (eVar 2) aNil))))) (gSeq (gIf (tV (e2 dEq (eVar 3) (eLst aNil))) (gRet (eTup (aCons (eC (.str (Str.ofString "none"))) aNil))) gNil) (gSeq (gSet 4 (eCall 2 newS (aCons (eVar 0) (aCons (eVar 3) aNil)))) (gSeq (gSet 5 (eMeth 1 F_m_alike (eVar 4) aNil)) (gSeq (gIf (tV (e2 dIsNot (eVar 5) (eC .none))) (gRet (eTup (aCons (eC (.str (Str.ofString "alike"))) (aCons (e2 dIx (eVar 5) (eC (.int 0))) (aCons (e2 dIx (eVar 5) (eC (.int 1))) aNil))))) gNil) (gSeq (gSet 6 (eMeth 1 F_m_least (eVar 4) aNil)) (gSeq (gSet 7 (eTupRange (eA dLen (aCons (eVar 3) aNil)))) (gSeq (gSet 8 (eC .none)) (gSeq (gIf (tV (e2 dGt (eVar 6) (eC (.int 0)))) (gSet 8 (eMeth 3 (F_m_hold 30) (eVar 4) (aCons (eVar 7) (aCons (e2 dSub (eVar 6) (eC (.int 1))) aNil)))) gNil) (gRet (eTup (aCons (eC (.str (Str.ofString "plan"))) (aCons (eMeth 3 (F_m_plan 30) (eVar 4) (aCons (eVar 7) (aCons (eVar 6) aNil))) (aCons (eVar 8) aNil))))))))))))))
def F_told : List D → R D := runF 9 g_told
theorem sc_told : FnScope ["many", "cases", "done", "some", "search", "pair", "number", "every", "hold"] ["many", "cases", "done"] (defScope (top 30)) := ⟨rfl, rfl, rfl, by decide +kernel, rfl, by decide +kernel, by decide +kernel⟩
theorem df_told (T : TF K mg) : Df P w K mg base (cA K) "told" 93 3 F_told := by
  obtain ⟨fd, FD⟩ := T.says.def_ 14 (d := dF "told" 30) rfl
  refine df_mk (B := noObj) (k := 92) (g := g_told) FD sc_told (FD.bindsN fun _ _ _ _ _ _ us hl => match us, hl with | [_, _, _], _ => rfl) (T.glo 29) fun cdv A outer s H E G => ?_
  exact (dss_cons (ds_set G.toGood.nd rfl (.inl rfl) (de_call G.toGood (DfS.toD (df_still_open T)) (by decide) (da_cons (de_var (i := 0) rfl (.inl rfl)) (da_cons (de_var (i := 1) rfl (.inl rfl)) (da_cons (de_var (i := 2) rfl (.inl rfl)) da_nil))))) (dss_cons (ds_if (dt_cmp (cEq G.toGood.room) G.toGood.K (de_var (i := 3) rfl (.inl rfl)) (de_lst da_nil) (nomark _)) (dss_one (ds_ret (de_tup (da_cons de_str da_nil)))) dss_nil) (dss_cons (ds_set G.toGood.nd rfl (.inl rfl) (de_make G.toGood (mkF T) (init_Search T) (by decide) (T.glo 48) (da_cons (de_var (i := 0) rfl (.inl rfl)) (da_cons (de_var (i := 3) rfl (.inl rfl)) da_nil)))) (dss_cons (ds_set G.toGood.nd rfl (.inl rfl) (de_meth0 G.toGood (clsF T) (dm_alike T) (by decide) (de_var (i := 4) rfl (.inl rfl)))) (dss_cons (ds_if (dt_cmp cIsNot G.toGood.K (de_var (i := 5) rfl (.inl rfl)) de_non (nomark _)) (dss_one (ds_ret (de_tup (da_cons de_str (da_cons (de_ix G.toGood.K (de_var (i := 5) rfl (.inl rfl)) de_int) (da_cons (de_ix G.toGood.K (de_var (i := 5) rfl (.inl rfl)) de_int) da_nil)))))) dss_nil) (dss_cons (ds_set G.toGood.nd rfl (.inl rfl) (de_meth0 G.toGood (clsF T) (dm_least T) (by decide) (de_var (i := 4) rfl (.inl rfl)))) (dss_cons (ds_set G.toGood.nd rfl (.inl rfl) (de_tupRange G.toGood (T.free 14) (T.free 9) (de_len G.toGood.K (T.free 5) (da_cons (de_var (i := 3) rfl (.inl rfl)) da_nil)))) (dss_cons (ds_set G.toGood.nd rfl (.inl rfl) de_non) (dss_cons (ds_if (dt_cmp cGt G.toGood.K (de_var (i := 6) rfl (.inl rfl)) de_int (nomark _)) (dss_one (ds_set G.toGood.nd rfl (.inl rfl) (de_meth G.toGood (clsF T) (dm_hold T 30) (by decide) (de_var (i := 4) rfl (.inl rfl)) (da_cons (de_var (i := 7) rfl (.inl rfl)) (da_cons (de_sub (de_var (i := 6) rfl (.inl rfl)) de_int) da_nil))))) dss_nil) (dss_one (ds_ret (de_tup (da_cons de_str (da_cons (de_meth G.toGood (clsF T) (dm_plan T 30) (by decide) (de_var (i := 4) rfl (.inl rfl)) (da_cons (de_var (i := 7) rfl (.inl rfl)) (da_cons (de_var (i := 6) rfl (.inl rfl)) da_nil))) (da_cons (de_var (i := 8) rfl (.inl rfl)) da_nil)))))))))))))))
/-! ### least -/
def g_least : GS noObj := (gSeq (gSet 3 (eCall 3 (listR F_still_open) (aCons (eVar 0) (aCons (eVar 1) (aCons (eVar 2) aNil))))) (gSeq (gIf (tV (e2 dEq (eVar 3) (eLst aNil))) (gRet (eC .none)) gNil) (gSeq (gSet 4 (eCall 2 newS (aCons (eVar 0) (aCons (eVar 3) aNil)))) (gSeq (gIf (tV (e2 dIsNot (eMeth 1 F_m_alike (eVar 4) aNil) (eC .none))) (gRet (eC .none)) gNil) (gRet (eMeth 1 F_m_least (eVar 4) aNil))))))
def F_least : List D → R D := runF 5 g_least
theorem sc_least : FnScope ["many", "cases", "done", "some", "search"] ["many", "cases", "done"] (defScope (top 31)) := ⟨rfl, rfl, rfl, by decide +kernel, rfl, by decide +kernel, by decide +kernel⟩
theorem df_least (T : TF K mg) : Df P w K mg base (cA K) "least" 64 3 F_least := by
  obtain ⟨fd, FD⟩ := T.says.def_ 15 (d := dF "least" 31) rfl
  refine df_mk (B := noObj) (k := 63) (g := g_least) FD sc_least (FD.bindsN fun _ _ _ _ _ _ us hl => match us, hl with | [_, _, _], _ => rfl) (T.glo 30) fun cdv A outer s H E G => ?_
  exact (dss_cons (ds_set G.toGood.nd rfl (.inl rfl) (de_call G.toGood (DfS.toD (df_still_open T)) (by decide) (da_cons (de_var (i := 0) rfl (.inl rfl)) (da_cons (de_var (i := 1) rfl (.inl rfl)) (da_cons (de_var (i := 2) rfl (.inl rfl)) da_nil))))) (dss_cons (ds_if (dt_cmp (cEq G.toGood.room) G.toGood.K (de_var (i := 3) rfl (.inl rfl)) (de_lst da_nil) (nomark _)) (dss_one (ds_ret de_non)) dss_nil) (dss_cons (ds_set G.toGood.nd rfl (.inl rfl) (de_make G.toGood (mkF T) (init_Search T) (by decide) (T.glo 48) (da_cons (de_var (i := 0) rfl (.inl rfl)) (da_cons (de_var (i := 3) rfl (.inl rfl)) da_nil)))) (dss_cons (ds_if (dt_cmp cIsNot G.toGood.K (de_meth0 G.toGood (clsF T) (dm_alike T) (by decide) (de_var (i := 4) rfl (.inl rfl))) de_non (nomark _)) (dss_one (ds_ret de_non)) dss_nil) (dss_one (ds_ret (de_meth0 G.toGood (clsF T) (dm_least T) (by decide) (de_var (i := 4) rfl (.inl rfl)))))))))
/-! ### _law_cell_at -/
def g__law_cell_at : GS noObj := (gSeq (gIf (tV (e2 dLt (eVar 1) (eA dLen (aCons (eVar 0) aNil)))) (gRet (e2 dIx (eVar 0) (eVar 1))) gNil) (gRet (eC (.int 0))))
def F__law_cell_at : List D → R D := runF 2 g__law_cell_at
theorem sc__law_cell_at : FnScope ["_law_script", "_law_k"] ["_law_script", "_law_k"] (defScope (top 33)) := ⟨rfl, rfl, rfl, by decide +kernel, rfl, by decide +kernel, by decide +kernel⟩
theorem df__law_cell_at (T : TF K mg) : Df P w K mg base (cA K) "_law_cell_at" 1 2 F__law_cell_at := by
  obtain ⟨fd, FD⟩ := T.says.def_ 16 (d := dF "_law_cell_at" 33) rfl
  refine df_mk (B := noObj) (k := 0) (g := g__law_cell_at) FD sc__law_cell_at (FD.bindsN fun _ _ _ _ _ _ us hl => match us, hl with | [_, _], _ => rfl) (T.glo 31) fun cdv A outer s H E G => ?_
  exact (dss_cons (ds_if (dt_cmp cLt G.toGood.K (de_var (i := 1) rfl (.inl rfl)) (de_len G.toGood.K (T.free 5) (da_cons (de_var (i := 0) rfl (.inl rfl)) da_nil)) (nomark _)) (dss_one (ds_ret (de_ix G.toGood.K (de_var (i := 0) rfl (.inl rfl)) (de_var (i := 1) rfl (.inl rfl))))) dss_nil) (dss_one (ds_ret de_int)))
/-! ### _law_mixed -/
def g__law_mixed : GS noObj := (gRet (e2 dDiv (e2 dMod (e2 dMul (e2 dAdd (e2 dAdd (eCall 2 F__law_cell_at (aCons (eVar 0) (aCons (eVar 1) aNil))) (e2 dMul (eC (.int 7919)) (eVar 1))) (eC (.int 13))) (eC (.int 48271))) (eC (.int 2147483647))) (eC (.int 3))))
def F__law_mixed : List D → R D := runF 2 g__law_mixed
theorem sc__law_mixed : FnScope ["_law_script", "_law_k"] ["_law_script", "_law_k"] (defScope (top 34)) := ⟨rfl, rfl, rfl, by decide +kernel, rfl, by decide +kernel, by decide +kernel⟩
theorem df__law_mixed (T : TF K mg) : Df P w K mg base (cA K) "_law_mixed" 2 2 F__law_mixed := by
  obtain ⟨fd, FD⟩ := T.says.def_ 17 (d := dF "_law_mixed" 34) rfl
  refine df_mk (B := noObj) (k := 1) (g := g__law_mixed) FD sc__law_mixed (FD.bindsN fun _ _ _ _ _ _ us hl => match us, hl with | [_, _], _ => rfl) (T.glo 32) fun cdv A outer s H E G => ?_
  exact (dss_one (ds_ret (de_div (de_mod (de_mul G.toGood.K (de_add G.toGood.K (de_add G.toGood.K (de_call G.toGood (df__law_cell_at T) (by decide) (da_cons (de_var (i := 0) rfl (.inl rfl)) (da_cons (de_var (i := 1) rfl (.inl rfl)) da_nil))) (de_mul G.toGood.K de_int (de_var (i := 1) rfl (.inl rfl)))) de_int) de_int) de_int) de_int)))
/-! ### _law_whole -/
def g__law_whole : GS noObj := (gRet (eAnd (e1 (dIsi "int") (eVar 0)) (eNot (e1 (dIsi "bool") (eVar 0)))))
def F__law_whole : List D → R D := runF 1 g__law_whole
theorem sc__law_whole : FnScope ["_law_found"] ["_law_found"] (defScope (top 35)) := ⟨rfl, rfl, rfl, by decide +kernel, rfl, by decide +kernel, by decide +kernel⟩
theorem df__law_whole (T : TF K mg) : Df P w K mg base (cA K) "_law_whole" 1 1 F__law_whole := by
  obtain ⟨fd, FD⟩ := T.says.def_ 18 (d := dF "_law_whole" 35) rfl
  refine df_mk (B := noObj) (k := 0) (g := g__law_whole) FD sc__law_whole (FD.bindsN fun _ _ _ _ _ _ us hl => match us, hl with | [_], _ => rfl) (T.glo 33) fun cdv A outer s H E G => ?_
  exact (dss_one (ds_ret (de_and (de_isi G.toGood.K (T.free 4) (T.free 3) boot_intT (de_var (i := 0) rfl (.inl rfl))) (de_one (de_not (de_isi G.toGood.K (T.free 4) (T.free 1) boot_boolT (de_var (i := 0) rfl (.inl rfl))))))))
/-! ### _law_came -/
def g__law_came_L1 : GS noObj := (gSet 2 (e2 dAdd (eVar 2) (e2 dIx (eVar 1) (eVar 3))))
def g__law_came_L2 : GS noObj := (gSet 2 (e2 dSub (eVar 2) (e2 dIx (eVar 1) (eVar 3))))
def g__law_came : GS noObj := (gSeq (gSet 2 (eC (.int 0))) (gSeq (gFor (iSeq (e2 dIx (eVar 0) (eC (.int 0)))) (gN 3) g__law_came_L1) (gSeq (gFor (iSeq (e2 dIx (eVar 0) (eC (.int 1)))) (gN 3) g__law_came_L2) (gRet (eIf (tV (e2 dGt (eVar 2) (eC (.int 0)))) (eC (.int 1)) (eIf (tV (e2 dLt (eVar 2) (eC (.int 0)))) (e1 dNeg (eC (.int 1))) (eC (.int 0))))))))
def F__law_came : List D → R D := runF 4 g__law_came
theorem sc__law_came : FnScope ["_law_weighing", "_law_case", "_law_more", "_law_one_here"] ["_law_weighing", "_law_case"] (defScope (top 36)) := ⟨rfl, rfl, rfl, by decide +kernel, rfl, by decide +kernel, by decide +kernel⟩
theorem df__law_came (T : TF K mg) : Df P w K mg base (cA K) "_law_came" 1 2 F__law_came := by
  obtain ⟨fd, FD⟩ := T.says.def_ 19 (d := dF "_law_came" 36) rfl
  refine df_mk (B := noObj) (k := 0) (g := g__law_came) FD sc__law_came (FD.bindsN fun _ _ _ _ _ _ us hl => match us, hl with | [_, _], _ => rfl) (T.glo 34) fun cdv A outer s H E G => ?_
  exact (dss_cons (ds_set G.toGood.nd rfl (.inl rfl) de_int) (dss_cons (ds_for G (di_seq G.toGood.K (de_ix G.toGood.K (de_var (i := 0) rfl (.inl rfl)) de_int)) (dg_name (i := 3) G.toGood.nd rfl (.inl rfl)) (dss_one (ds_set G.toGood.nd rfl (.inl rfl) (de_add G.toGood.K (de_var (i := 2) rfl (.inl rfl)) (de_ix G.toGood.K (de_var (i := 1) rfl (.inl rfl)) (de_var (i := 3) rfl (.inl rfl))))))) (dss_cons (ds_for G (di_seq G.toGood.K (de_ix G.toGood.K (de_var (i := 0) rfl (.inl rfl)) de_int)) (dg_name (i := 3) G.toGood.nd rfl (.inl rfl)) (dss_one (ds_set G.toGood.nd rfl (.inl rfl) (de_sub (de_var (i := 2) rfl (.inl rfl)) (de_ix G.toGood.K (de_var (i := 1) rfl (.inl rfl)) (de_var (i := 3) rfl (.inl rfl))))))) (dss_one (ds_ret (de_if (dt_cmp cGt G.toGood.K (de_var (i := 2) rfl (.inl rfl)) de_int (nomark _)) de_int (de_if (dt_cmp cLt G.toGood.K (de_var (i := 2) rfl (.inl rfl)) de_int (nomark _)) (de_neg de_int) de_int)))))))
/-! ### _law_pans -/
def c__law_pans_1 : Env noObj → R (List D) := (lLc (iRng1 (aCons (eVar 0) aNil)) (gN 6) tYesD (e2 dMod (e2 dDiv (eVar 2) (e2 dIx (eLst (aCons (eC (.int 1)) (aCons (eC (.int 3)) (aCons (eC (.int 9)) (aCons (eC (.int 27)) (aCons (eC (.int 81)) aNil)))))) (eVar 6))) (eC (.int 3))) [6])
def c__law_pans_2 : Env noObj → R (List D) := (lLc (iRng1 (aCons (eVar 0) aNil)) (gN 6) (tV (e2 dEq (e2 dIx (eVar 3) (eVar 6)) (eC (.int 1)))) (eVar 6) [6])
def c__law_pans_3 : Env noObj → R (List D) := (lLc (iRng1 (aCons (eVar 0) aNil)) (gN 6) (tV (e2 dEq (e2 dIx (eVar 3) (eVar 6)) (eC (.int 2)))) (eVar 6) [6])
def g__law_pans_L1 : GS noObj := (gSeq (gSet 3 (eL c__law_pans_1)) (gSeq (gSet 4 (eA dTuple (aCons (eL c__law_pans_2) aNil))) (gSeq (gSet 5 (eA dTuple (aCons (eL c__law_pans_3) aNil))) (gIf (tAndD (tV (e2 dEq (eA dLen (aCons (eVar 4) aNil)) (eA dLen (aCons (eVar 5) aNil)))) (tAndD (tV (e2 dNe (eVar 4) (eTup aNil))) (tV (e2 dLt (e2 dIx (eVar 4) (eC (.int 0))) (e2 dIx (eVar 5) (eC (.int 0))))))) (gApp 1 (eTup (aCons (eVar 4) (aCons (eVar 5) aNil)))) gNil))))
def g__law_pans : GS noObj := (gSeq (gOwn 1 (lDisp aNil)) (gSeq (gFor (iRng1 (aCons (e2 dIx (eLst (aCons (eC (.int 9)) (aCons (eC (.int 27)) (aCons (eC (.int 81)) (aCons (eC (.int 243)) aNil))))) (e2 dSub (eVar 0) (eC (.int 2)))) aNil)) (gN 2) g__law_pans_L1) (gFrz 1 (gRetL (eSorted (aCons (eVar 1) aNil))))))
def F__law_pans : List D → R (List D) := runL 7 g__law_pans
theorem sc__law_pans : FnScope ["_law_many", "_law_found", "_law_number", "_law_sides", "_law_left", "_law_right", "_law_one_here"] ["_law_many"] (defScope (top 37)) := ⟨rfl, rfl, rfl, by decide +kernel, rfl, by decide +kernel, by decide +kernel⟩
theorem df__law_pans (T : TF K mg) : DfL P w K mg base (cA K) "_law_pans" 1 1 F__law_pans := by
  obtain ⟨fd, FD⟩ := T.says.def_ 20 (d := dF "_law_pans" 37) rfl
  refine dfl_mk (B := noObj) (k := 0) (g := g__law_pans) FD sc__law_pans (FD.bindsN fun _ _ _ _ _ _ us hl => match us, hl with | [_], _ => rfl) (T.glo 35) fun cdv A outer s H E G => ?_
  exact (dss_cons (ds_own G.toGood.nd rfl (.inl rfl) (dl_lst da_nil)) (dss_cons (ds_for G (di_range1 (T.free 9) (da_cons (de_ix G.toGood.K (de_lst (da_cons de_int (da_cons de_int (da_cons de_int (da_cons de_int da_nil))))) (de_sub (de_var (i := 0) rfl (.inl rfl)) de_int)) da_nil)) (dg_name (i := 2) G.toGood.nd rfl (.inr rfl)) (dss_cons (ds_set G.toGood.nd rfl (.inr rfl) (de_l (dl_lc (own := [("_law_one_here", 6)]) G.toGood (di_range1 (T.free 9) (da_cons (de_var (i := 0) rfl (.inl rfl)) da_nil)) (blkOk_by (by kernel_rfl)) (fun _ _ _ _ _ => (dg_name (i := 6) G.toGood.nd rfl (.inl rfl))) (by decide) (fun _ _ _ _ _ G1 => dts_nil) (fun _ _ _ _ _ G1 => (de_mod (de_div (de_var (i := 2) rfl (.inr (.inl rfl))) (de_ix G1.K (de_lst (da_cons de_int (da_cons de_int (da_cons de_int (da_cons de_int (da_cons de_int da_nil)))))) (de_var (i := 6) rfl (.inl rfl)))) de_int))))) (dss_cons (ds_set G.toGood.nd rfl (.inl rfl) (de_tuple G.toGood.K (T.free 14) (da_cons (de_l (dl_lc (own := [("_law_one_here", 6)]) G.toGood (di_range1 (T.free 9) (da_cons (de_var (i := 0) rfl (.inl rfl)) da_nil)) (blkOk_by (by kernel_rfl)) (fun _ _ _ _ _ => (dg_name (i := 6) G.toGood.nd rfl (.inl rfl))) (by decide) (fun _ _ _ _ _ G1 => (dts_one (dt_cmp (cEq G1.room) G1.K (de_ix G1.K (de_var (i := 3) rfl (.inr (.inl rfl))) (de_var (i := 6) rfl (.inl rfl))) de_int (nomark _)))) (fun _ _ _ _ _ G1 => (de_var (i := 6) rfl (.inl rfl))))) da_nil))) (dss_cons (ds_set G.toGood.nd rfl (.inl rfl) (de_tuple G.toGood.K (T.free 14) (da_cons (de_l (dl_lc (own := [("_law_one_here", 6)]) G.toGood (di_range1 (T.free 9) (da_cons (de_var (i := 0) rfl (.inl rfl)) da_nil)) (blkOk_by (by kernel_rfl)) (fun _ _ _ _ _ => (dg_name (i := 6) G.toGood.nd rfl (.inl rfl))) (by decide) (fun _ _ _ _ _ G1 => (dts_one (dt_cmp (cEq G1.room) G1.K (de_ix G1.K (de_var (i := 3) rfl (.inr (.inl rfl))) (de_var (i := 6) rfl (.inl rfl))) de_int (nomark _)))) (fun _ _ _ _ _ G1 => (de_var (i := 6) rfl (.inl rfl))))) da_nil))) (dss_one (ds_if (dt_w (dw_and (dt_cmp (cEq G.toGood.room) G.toGood.K (de_len G.toGood.K (T.free 5) (da_cons (de_var (i := 4) rfl (.inl rfl)) da_nil)) (de_len G.toGood.K (T.free 5) (da_cons (de_var (i := 5) rfl (.inl rfl)) da_nil)) (nomark _)) (dw_and (dt_cmp (cNe G.toGood.room) G.toGood.K (de_var (i := 4) rfl (.inl rfl)) (de_tup da_nil) (nomark _)) (dw_and1 (dt_cmp cLt G.toGood.K (de_ix G.toGood.K (de_var (i := 4) rfl (.inl rfl)) de_int) (de_ix G.toGood.K (de_var (i := 5) rfl (.inl rfl)) de_int) (nomark _)))))) (dss_one (ds_app (i := 1) rfl (.inl rfl) (de_tup (da_cons (de_var (i := 4) rfl (.inl rfl)) (da_cons (de_var (i := 5) rfl (.inl rfl)) da_nil))))) dss_nil)))))) (dss_frz 1 (dss_one (ds_retL (dl_sorted G.toGood (T.free 11) (da_cons (de_var (i := 1) rfl (.inl rfl)) da_nil)))))))
/-! ### _law_is_pan -/
def c__law_is_pan_1 : Env noObj → R (List D) := (lLc (iSeq (eVar 1)) (gN 2) tYesD (eAnd (eCall 1 F__law_whole (aCons (eVar 2) aNil)) (eChain dLe dLt (eC (.int 0)) (eVar 2) (eVar 0))) [2])
def g__law_is_pan : GS noObj := (gSeq (gIf (tOrD (tNotD (tV (e1 (dIsi "tuple") (eVar 1)))) (tV (e2 dEq (eVar 1) (eTup aNil)))) (gRet (eC (.bool false))) gNil) (gSeq (gIf (tNotD (tV (eA dAll (aCons (eL c__law_is_pan_1) aNil)))) (gRet (eC (.bool false))) gNil) (gRet (e2 dEq (eA dList (aCons (eVar 1) aNil)) (eL (eSortSet (eVar 1)))))))
def F__law_is_pan : List D → R D := runF 3 g__law_is_pan
theorem sc__law_is_pan : FnScope ["_law_many", "_law_thing", "_law_one_here"] ["_law_many", "_law_thing"] (defScope (top 38)) := ⟨rfl, rfl, rfl, by decide +kernel, rfl, by decide +kernel, by decide +kernel⟩
theorem df__law_is_pan (T : TF K mg) : Df P w K mg base (cA K) "_law_is_pan" 2 2 F__law_is_pan := by
  obtain ⟨fd, FD⟩ := T.says.def_ 21 (d := dF "_law_is_pan" 38) rfl
  refine df_mk (B := noObj) (k := 1) (g := g__law_is_pan) FD sc__law_is_pan (FD.bindsN fun _ _ _ _ _ _ us hl => match us, hl with | [_, _], _ => rfl) (T.glo 36) fun cdv A outer s H E G => ?_
  exact (dss_cons (ds_if (dt_w (dw_or (dt_not (dt_val (de_isi G.toGood.K (T.free 4) (T.free 14) boot_tupleT (de_var (i := 1) rfl (.inl rfl))))) (dw_or1 (dt_cmp (cEq G.toGood.room) G.toGood.K (de_var (i := 1) rfl (.inl rfl)) (de_tup da_nil) (nomark _))))) (dss_one (ds_ret de_bl)) dss_nil) (dss_cons (ds_if (dt_not (dt_val (de_all G.toGood.K G.toGood.calm (T.free 0) (da_cons (de_l (dl_lc (own := [("_law_one_here", 2)]) G.toGood (di_seq G.toGood.K (de_var (i := 1) rfl (.inl rfl))) (blkOk_by (by kernel_rfl)) (fun _ _ _ _ _ => (dg_name (i := 2) G.toGood.nd rfl (.inl rfl))) (by decide) (fun _ _ _ _ _ G1 => dts_nil) (fun _ _ _ _ _ G1 => (de_and (de_call G1 (df__law_whole T) (by decide) (da_cons (de_var (i := 2) rfl (.inl rfl)) da_nil)) (de_one (de_chain cLe cLt G1.K de_int (de_var (i := 2) rfl (.inl rfl)) (de_var (i := 0) rfl (.inr (.inl rfl))))))))) da_nil)))) (dss_one (ds_ret de_bl)) dss_nil) (dss_one (ds_ret (de_cmp (cEq G.toGood.room) G.toGood.K (de_list G.toGood.K (T.free 6) (da_cons (de_var (i := 1) rfl (.inl rfl)) da_nil)) (de_l (dl_sortSet G.toGood (T.free 11) (T.free 10) (de_var (i := 1) rfl (.inl rfl)))) (nomark _))))))
/-! ### _law_is_weighing -/
def g__law_is_weighing : GS noObj := (gSeq (gIf (tOrD (tNotD (tV (e1 (dIsi "tuple") (eVar 1)))) (tOrD (tV (e2 dNe (eA dLen (aCons (eVar 1) aNil)) (eC (.int 2)))) (tNotD (tV (eCall 2 F__law_is_pan (aCons (eVar 0) (aCons (e2 dIx (eVar 1) (eC (.int 0))) aNil))))))) (gRet (eC (.bool false))) gNil) (gSeq (gIf (tOrD (tNotD (tV (eCall 2 F__law_is_pan (aCons (eVar 0) (aCons (e2 dIx (eVar 1) (eC (.int 1))) aNil))))) (tV (e2 dNe (eA dLen (aCons (e2 dIx (eVar 1) (eC (.int 0))) aNil)) (eA dLen (aCons (e2 dIx (eVar 1) (eC (.int 1))) aNil))))) (gRet (eC (.bool false))) gNil) (gRet (e2 dEq (eLenSet (e2 dAdd (e2 dIx (eVar 1) (eC (.int 0))) (e2 dIx (eVar 1) (eC (.int 1))))) (e2 dMul (eC (.int 2)) (eA dLen (aCons (e2 dIx (eVar 1) (eC (.int 0))) aNil)))))))
def F__law_is_weighing : List D → R D := runF 2 g__law_is_weighing
theorem sc__law_is_weighing : FnScope ["_law_many", "_law_thing"] ["_law_many", "_law_thing"] (defScope (top 39)) := ⟨rfl, rfl, rfl, by decide +kernel, rfl, by decide +kernel, by decide +kernel⟩
theorem df__law_is_weighing (T : TF K mg) : Df P w K mg base (cA K) "_law_is_weighing" 3 2 F__law_is_weighing := by
  obtain ⟨fd, FD⟩ := T.says.def_ 22 (d := dF "_law_is_weighing" 39) rfl
  refine df_mk (B := noObj) (k := 2) (g := g__law_is_weighing) FD sc__law_is_weighing (FD.bindsN fun _ _ _ _ _ _ us hl => match us, hl with | [_, _], _ => rfl) (T.glo 37) fun cdv A outer s H E G => ?_
  exact (dss_cons (ds_if (dt_w (dw_or (dt_not (dt_val (de_isi G.toGood.K (T.free 4) (T.free 14) boot_tupleT (de_var (i := 1) rfl (.inl rfl))))) (dw_or (dt_cmp (cNe G.toGood.room) G.toGood.K (de_len G.toGood.K (T.free 5) (da_cons (de_var (i := 1) rfl (.inl rfl)) da_nil)) de_int (nomark _)) (dw_or1 (dt_not (dt_val (de_call G.toGood (df__law_is_pan T) (by decide) (da_cons (de_var (i := 0) rfl (.inl rfl)) (da_cons (de_ix G.toGood.K (de_var (i := 1) rfl (.inl rfl)) de_int) da_nil))))))))) (dss_one (ds_ret de_bl)) dss_nil) (dss_cons (ds_if (dt_w (dw_or (dt_not (dt_val (de_call G.toGood (df__law_is_pan T) (by decide) (da_cons (de_var (i := 0) rfl (.inl rfl)) (da_cons (de_ix G.toGood.K (de_var (i := 1) rfl (.inl rfl)) de_int) da_nil))))) (dw_or1 (dt_cmp (cNe G.toGood.room) G.toGood.K (de_len G.toGood.K (T.free 5) (da_cons (de_ix G.toGood.K (de_var (i := 1) rfl (.inl rfl)) de_int) da_nil)) (de_len G.toGood.K (T.free 5) (da_cons (de_ix G.toGood.K (de_var (i := 1) rfl (.inl rfl)) de_int) da_nil)) (nomark _))))) (dss_one (ds_ret de_bl)) dss_nil) (dss_one (ds_ret (de_cmp (cEq G.toGood.room) G.toGood.K (de_lenSet G.toGood (T.free 5) (T.free 10) (de_add G.toGood.K (de_ix G.toGood.K (de_var (i := 1) rfl (.inl rfl)) de_int) (de_ix G.toGood.K (de_var (i := 1) rfl (.inl rfl)) de_int))) (de_mul G.toGood.K de_int (de_len G.toGood.K (T.free 5) (da_cons (de_ix G.toGood.K (de_var (i := 1) rfl (.inl rfl)) de_int) da_nil))) (nomark _))))))
/-! ### _law_is_case_told -/
def c__law_is_case_told_1 : Env noObj → R (List D) := (lLc (iSeq (eVar 0)) (gN 2) tYesD (eCall 1 F__law_whole (aCons (eVar 2) aNil)) [2])
def g__law_is_case_told : GS noObj := (gRet (eAnd (e1 (dIsi "tuple") (eVar 0)) (eAnd (e2 dEq (eVar 0) (eVar 1)) (eA dAll (aCons (eL c__law_is_case_told_1) aNil)))))
def F__law_is_case_told : List D → R D := runF 3 g__law_is_case_told
theorem sc__law_is_case_told : FnScope ["_law_thing", "_law_case", "_law_one_here"] ["_law_thing", "_law_case"] (defScope (top 40)) := ⟨rfl, rfl, rfl, by decide +kernel, rfl, by decide +kernel, by decide +kernel⟩
theorem df__law_is_case_told (T : TF K mg) : Df P w K mg base (cA K) "_law_is_case_told" 2 2 F__law_is_case_told := by
  obtain ⟨fd, FD⟩ := T.says.def_ 23 (d := dF "_law_is_case_told" 40) rfl
  refine df_mk (B := noObj) (k := 1) (g := g__law_is_case_told) FD sc__law_is_case_told (FD.bindsN fun _ _ _ _ _ _ us hl => match us, hl with | [_, _], _ => rfl) (T.glo 38) fun cdv A outer s H E G => ?_
  exact (dss_one (ds_ret (de_and (de_isi G.toGood.K (T.free 4) (T.free 14) boot_tupleT (de_var (i := 0) rfl (.inl rfl))) (de_and (de_cmp (cEq G.toGood.room) G.toGood.K (de_var (i := 0) rfl (.inl rfl)) (de_var (i := 1) rfl (.inl rfl)) (nomark _)) (de_one (de_all G.toGood.K G.toGood.calm (T.free 0) (da_cons (de_l (dl_lc (own := [("_law_one_here", 2)]) G.toGood (di_seq G.toGood.K (de_var (i := 0) rfl (.inl rfl))) (blkOk_by (by kernel_rfl)) (fun _ _ _ _ _ => (dg_name (i := 2) G.toGood.nd rfl (.inl rfl))) (by decide) (fun _ _ _ _ _ G1 => dts_nil) (fun _ _ _ _ _ G1 => (de_call G1 (df__law_whole T) (by decide) (da_cons (de_var (i := 2) rfl (.inl rfl)) da_nil))))) da_nil)))))))
/-! ### _law_is_plan -/
def c__law_is_plan_1 (R__law_is_plan : List D → R D) : Env noObj → R (List D) := (lLc (iSeq (eVar 1)) (gN 6) (tV (e2 dEq (eCall 2 F__law_came (aCons (e2 dIx (eVar 2) (eC (.int 1))) (aCons (eVar 6) aNil))) (e2 dSub (eVar 3) (eC (.int 1))))) (eVar 6) [6])
def g__law_is_plan_L1 (R__law_is_plan : List D → R D) : GS noObj := (gSeq (gSet 4 (eL (c__law_is_plan_1 R__law_is_plan))) (gSeq (gSet 5 (e2 dIx (e2 dIx (eVar 2) (eC (.int 2))) (eVar 3))) (gIf (tOrD (tAndD (tV (e2 dEq (eVar 4) (eLst aNil))) (tV (e2 dIsNot (eVar 5) (eC .none)))) (tAndD (tV (e2 dNe (eVar 4) (eLst aNil))) (tNotD (tV (eCall 3 R__law_is_plan (aCons (eVar 0) (aCons (eVar 4) (aCons (eVar 5) aNil)))))))) (gRet (eC (.bool false))) gNil)))
def g__law_is_plan (R__law_is_plan : List D → R D) : GS noObj := (gSeq (gIf (tOrD (tNotD (tV (e1 (dIsi "tuple") (eVar 2)))) (tOrD (tV (e2 dLt (eA dLen (aCons (eVar 2) aNil)) (eC (.int 2)))) (tNotD (tV (e1 (dIsi "str") (e2 dIx (eVar 2) (eC (.int 0)))))))) (gRet (eC (.bool false))) gNil) (gSeq (gIf (tV (e2 dEq (e2 dIx (eVar 2) (eC (.int 0))) (eC (.str (Str.ofString "told"))))) (gRet (eAnd (e2 dEq (eA dLen (aCons (eVar 2) aNil)) (eC (.int 2))) (eAnd (e2 dEq (eA dLen (aCons (eVar 1) aNil)) (eC (.int 1))) (eCall 2 F__law_is_case_told (aCons (e2 dIx (eVar 2) (eC (.int 1))) (aCons (e2 dIx (eVar 1) (eC (.int 0))) aNil)))))) gNil) (gSeq (gIf (tOrD (tV (e2 dNe (e2 dIx (eVar 2) (eC (.int 0))) (eC (.str (Str.ofString "weigh"))))) (tOrD (tV (e2 dNe (eA dLen (aCons (eVar 2) aNil)) (eC (.int 3)))) (tNotD (tV (eCall 2 F__law_is_weighing (aCons (eVar 0) (aCons (e2 dIx (eVar 2) (eC (.int 1))) aNil))))))) (gRet (eC (.bool false))) gNil) (gSeq (gIf (tOrD (tNotD (tV (e1 (dIsi "tuple") (e2 dIx (eVar 2) (eC (.int 2)))))) (tV (e2 dNe (eA dLen (aCons (e2 dIx (eVar 2) (eC (.int 2))) aNil)) (eC (.int 3))))) (gRet (eC (.bool false))) gNil) (gSeq (gFor (iRng1 (aCons (eC (.int 3)) aNil)) (gN 3) (g__law_is_plan_L1 R__law_is_plan)) (gRet (eC (.bool true))))))))
theorem sc__law_is_plan : FnScope ["_law_many", "_law_cases", "_law_thing", "_law_place", "_law_some", "_law_part", "_law_case"] ["_law_many", "_law_cases", "_law_thing"] (defScope (top 41)) := ⟨rfl, rfl, rfl, by decide +kernel, rfl, by decide +kernel, by decide +kernel⟩
def F__law_is_plan : Nat → List D → R D
  | 0 => fun _ => .stuck
  | n + 1 => runF 7 (g__law_is_plan (F__law_is_plan n))
theorem dfs__law_is_plan (T : TF K mg) : ∀ n, Df P w K mg base (cA K) "_law_is_plan" (3 + n) 3 (F__law_is_plan n)
  | 0 => by
    obtain ⟨fd, FD⟩ := T.says.def_ 24 (d := dF "_law_is_plan" 41) rfl
    exact df_stuck FD (FD.bindsN (ps := ["_law_many", "_law_cases", "_law_thing"]) fun _ _ _ _ _ _ us hl => match us, hl with | [_, _, _], _ => rfl) (T.glo 39)
  | n + 1 => by
    have IH__law_is_plan := dfs__law_is_plan T n
    obtain ⟨fd, FD⟩ := T.says.def_ 24 (d := dF "_law_is_plan" 41) rfl
    refine df_mk (B := noObj) (N := ["_law_many", "_law_cases", "_law_thing", "_law_place", "_law_some", "_law_part", "_law_case"]) (ps := ["_law_many", "_law_cases", "_law_thing"]) (k := 3 + n) (g := g__law_is_plan (F__law_is_plan n)) FD sc__law_is_plan (FD.bindsN (ps := ["_law_many", "_law_cases", "_law_thing"]) fun _ _ _ _ _ _ us hl => match us, hl with | [_, _, _], _ => rfl) (T.glo 39) fun cdv A outer s H E G => ?_
    exact (dss_cons (ds_if (dt_w (dw_or (dt_not (dt_val (de_isi G.toGood.K (T.free 4) (T.free 14) boot_tupleT (de_var (i := 2) rfl (.inr (.inl rfl)))))) (dw_or (dt_cmp cLt G.toGood.K (de_len G.toGood.K (T.free 5) (da_cons (de_var (i := 2) rfl (.inr (.inl rfl))) da_nil)) de_int (nomark _)) (dw_or1 (dt_not (dt_val (de_isi G.toGood.K (T.free 4) (T.free 12) boot_strT (de_ix G.toGood.K (de_var (i := 2) rfl (.inr (.inl rfl))) de_int)))))))) (dss_one (ds_ret de_bl)) dss_nil) (dss_cons (ds_if (dt_cmp (cEq G.toGood.room) G.toGood.K (de_ix G.toGood.K (de_var (i := 2) rfl (.inr (.inl rfl))) de_int) de_str (nomark _)) (dss_one (ds_ret (de_and (de_cmp (cEq G.toGood.room) G.toGood.K (de_len G.toGood.K (T.free 5) (da_cons (de_var (i := 2) rfl (.inr (.inl rfl))) da_nil)) de_int (nomark _)) (de_and (de_cmp (cEq G.toGood.room) G.toGood.K (de_len G.toGood.K (T.free 5) (da_cons (de_var (i := 1) rfl (.inl rfl)) da_nil)) de_int (nomark _)) (de_one (de_call G.toGood (df__law_is_case_told T) (by omega) (da_cons (de_ix G.toGood.K (de_var (i := 2) rfl (.inr (.inl rfl))) de_int) (da_cons (de_ix G.toGood.K (de_var (i := 1) rfl (.inl rfl)) de_int) da_nil)))))))) dss_nil) (dss_cons (ds_if (dt_w (dw_or (dt_cmp (cNe G.toGood.room) G.toGood.K (de_ix G.toGood.K (de_var (i := 2) rfl (.inr (.inl rfl))) de_int) de_str (nomark _)) (dw_or (dt_cmp (cNe G.toGood.room) G.toGood.K (de_len G.toGood.K (T.free 5) (da_cons (de_var (i := 2) rfl (.inr (.inl rfl))) da_nil)) de_int (nomark _)) (dw_or1 (dt_not (dt_val (de_call G.toGood (df__law_is_weighing T) (by omega) (da_cons (de_var (i := 0) rfl (.inl rfl)) (da_cons (de_ix G.toGood.K (de_var (i := 2) rfl (.inr (.inl rfl))) de_int) da_nil))))))))) (dss_one (ds_ret de_bl)) dss_nil) (dss_cons (ds_if (dt_w (dw_or (dt_not (dt_val (de_isi G.toGood.K (T.free 4) (T.free 14) boot_tupleT (de_ix G.toGood.K (de_var (i := 2) rfl (.inr (.inl rfl))) de_int)))) (dw_or1 (dt_cmp (cNe G.toGood.room) G.toGood.K (de_len G.toGood.K (T.free 5) (da_cons (de_ix G.toGood.K (de_var (i := 2) rfl (.inr (.inl rfl))) de_int) da_nil)) de_int (nomark _))))) (dss_one (ds_ret de_bl)) dss_nil) (dss_cons (ds_for G (di_range1 (T.free 9) (da_cons de_int da_nil)) (dg_name (i := 3) G.toGood.nd rfl (.inr rfl)) (dss_cons (ds_lcSet (ps_lc (own := [("_law_case", 6)]) (i := 4) G.toGood rfl rfl (sw_true rfl rfl rfl (by decide +kernel)) (di_seq G.toGood.K (de_var (i := 1) rfl (.inl rfl))) (blkOk_by (by kernel_rfl)) (fun _ _ _ _ _ => (dg_name (i := 6) G.toGood.nd rfl (.inl rfl))) (by decide) (fun _ _ _ _ _ G1 => (dts_one (dt_cmp (cEq G1.room) G1.K (de_call G1 (df__law_came T) (by omega) (da_cons (de_ix G1.K (de_var (i := 2) rfl (.inr (.inl rfl))) de_int) (da_cons (de_var (i := 6) rfl (.inl rfl)) da_nil))) (de_sub (de_var (i := 3) rfl (.inr (.inl rfl))) de_int) (nomark _)))) (fun _ _ _ _ _ G1 => (de_var (i := 6) rfl (.inl rfl))))) (dss_cons (ds_set G.toGood.nd rfl (.inl rfl) (de_ix G.toGood.K (de_ix G.toGood.K (de_var (i := 2) rfl (.inr (.inl rfl))) de_int) (de_var (i := 3) rfl (.inr (.inl rfl))))) (dss_one (ds_if (dt_w (dw_or (dt_w (dw_and (dt_cmp (cEq G.toGood.room) G.toGood.K (de_var (i := 4) rfl (.inl rfl)) (de_lst da_nil) (nomark _)) (dw_and1 (dt_cmp cIsNot G.toGood.K (de_var (i := 5) rfl (.inl rfl)) de_non (nomark _))))) (dw_or1 (dt_w (dw_and (dt_cmp (cNe G.toGood.room) G.toGood.K (de_var (i := 4) rfl (.inl rfl)) (de_lst da_nil) (nomark _)) (dw_and1 (dt_not (dt_val (de_call G.toGood IH__law_is_plan (Nat.le_refl _) (da_cons (de_var (i := 0) rfl (.inl rfl)) (da_cons (de_var (i := 4) rfl (.inl rfl)) (da_cons (de_var (i := 5) rfl (.inl rfl)) da_nil)))))))))))) (dss_one (ds_ret de_bl)) dss_nil))))) (dss_one (ds_ret de_bl)))))))
theorem df__law_is_plan (T : TF K mg) (n : Nat) : Df P w K mg base (cA K) "_law_is_plan" (3 + n) 3 (F__law_is_plan n) := (dfs__law_is_plan T n)
/-! ### _law_length -/
def c__law_length_1 (R__law_length : List D → R D) : Env noObj → R (List D) := (lLc (iSeq (e2 dIx (eVar 0) (eC (.int 2)))) (gN 1) (tV (e2 dIsNot (eVar 1) (eC .none))) (eCall 1 R__law_length (aCons (eVar 1) aNil)) [1])
def g__law_length (R__law_length : List D → R D) : GS noObj := (gSeq (gIf (tV (e2 dEq (e2 dIx (eVar 0) (eC (.int 0))) (eC (.str (Str.ofString "told"))))) (gRet (eC (.int 0))) gNil) (gRet (e2 dAdd (eC (.int 1)) (eA dMax (aCons (eL (c__law_length_1 R__law_length)) aNil)))))
theorem sc__law_length : FnScope ["_law_plan", "_law_part"] ["_law_plan"] (defScope (top 42)) := ⟨rfl, rfl, rfl, by decide +kernel, rfl, by decide +kernel, by decide +kernel⟩
def F__law_length : Nat → List D → R D
  | 0 => fun _ => .stuck
  | n + 1 => runF 2 (g__law_length (F__law_length n))
theorem dfs__law_length (T : TF K mg) : ∀ n, Df P w K mg base (cA K) "_law_length" (0 + n) 1 (F__law_length n)
  | 0 => by
    obtain ⟨fd, FD⟩ := T.says.def_ 25 (d := dF "_law_length" 42) rfl
    exact df_stuck FD (FD.bindsN (ps := ["_law_plan"]) fun _ _ _ _ _ _ us hl => match us, hl with | [_], _ => rfl) (T.glo 40)
  | n + 1 => by
    have IH__law_length := dfs__law_length T n
    obtain ⟨fd, FD⟩ := T.says.def_ 25 (d := dF "_law_length" 42) rfl
    refine df_mk (B := noObj) (N := ["_law_plan", "_law_part"]) (ps := ["_law_plan"]) (k := 0 + n) (g := g__law_length (F__law_length n)) FD sc__law_length (FD.bindsN (ps := ["_law_plan"]) fun _ _ _ _ _ _ us hl => match us, hl with | [_], _ => rfl) (T.glo 40) fun cdv A outer s H E G => ?_
    exact (dss_cons (ds_if (dt_cmp (cEq G.toGood.room) G.toGood.K (de_ix G.toGood.K (de_var (i := 0) rfl (.inl rfl)) de_int) de_str (nomark _)) (dss_one (ds_ret de_int)) dss_nil) (dss_one (ds_ret (de_add G.toGood.K de_int (de_max G.toGood.K G.toGood.calm (T.free 7) (da_cons (de_l (dl_lc (own := [("_law_part", 1)]) G.toGood (di_seq G.toGood.K (de_ix G.toGood.K (de_var (i := 0) rfl (.inl rfl)) de_int)) (blkOk_by (by kernel_rfl)) (fun _ _ _ _ _ => (dg_name (i := 1) G.toGood.nd rfl (.inl rfl))) (by decide) (fun _ _ _ _ _ G1 => (dts_one (dt_cmp cIsNot G1.K (de_var (i := 1) rfl (.inl rfl)) de_non (nomark _)))) (fun _ _ _ _ _ G1 => (de_call G1 IH__law_length (Nat.le_refl _) (da_cons (de_var (i := 1) rfl (.inl rfl)) da_nil))))) da_nil))))))
theorem df__law_length (T : TF K mg) (n : Nat) : Df P w K mg base (cA K) "_law_length" (0 + n) 1 (F__law_length n) := (dfs__law_length T n)
/-! ### _law_threes -/
def g__law_threes_L1 : GS noObj := (gSet 1 (e2 dMul (eC (.int 3)) (eVar 1)))
def g__law_threes : GS noObj := (gSeq (gSet 1 (eC (.int 1))) (gSeq (gFor (iRng1 (aCons (eVar 0) aNil)) (gN 2) g__law_threes_L1) (gRet (eVar 1))))
def F__law_threes : List D → R D := runF 3 g__law_threes
theorem sc__law_threes : FnScope ["_law_number", "_law_found", "_law_turn"] ["_law_number"] (defScope (top 43)) := ⟨rfl, rfl, rfl, by decide +kernel, rfl, by decide +kernel, by decide +kernel⟩
theorem df__law_threes (T : TF K mg) : Df P w K mg base (cA K) "_law_threes" 1 1 F__law_threes := by
  obtain ⟨fd, FD⟩ := T.says.def_ 26 (d := dF "_law_threes" 43) rfl
  refine df_mk (B := noObj) (k := 0) (g := g__law_threes) FD sc__law_threes (FD.bindsN fun _ _ _ _ _ _ us hl => match us, hl with | [_], _ => rfl) (T.glo 41) fun cdv A outer s H E G => ?_
  exact (dss_cons (ds_set G.toGood.nd rfl (.inl rfl) de_int) (dss_cons (ds_for G (di_range1 (T.free 9) (da_cons (de_var (i := 0) rfl (.inl rfl)) da_nil)) (dg_name (i := 2) G.toGood.nd rfl (.inl rfl)) (dss_one (ds_set G.toGood.nd rfl (.inl rfl) (de_mul G.toGood.K de_int (de_var (i := 1) rfl (.inl rfl)))))) (dss_one (ds_ret (de_var (i := 1) rfl (.inl rfl))))))
/-! ### _law_is_hold -/
def c__law_is_hold_1 (R__law_is_hold : List D → R D) : Env noObj → R (List D) := (lLc (iSeq (eVar 1)) (gN 7) (tV (e2 dEq (eCall 2 F__law_came (aCons (e2 dIx (eVar 0) (eVar 4)) (aCons (eVar 7) aNil))) (e2 dIx (eVar 5) (eC (.int 0))))) (eVar 7) [7])
def g__law_is_hold_L1 (R__law_is_hold : List D → R D) : GS noObj := (gSeq (gSet 5 (e2 dIx (e2 dIx (eVar 3) (eC (.int 1))) (eVar 4))) (gSeq (gIf (tOrD (tNotD (tV (e1 (dIsi "tuple") (eVar 5)))) (tOrD (tV (e2 dNe (eA dLen (aCons (eVar 5) aNil)) (eC (.int 2)))) (tOrD (tNotD (tV (eCall 1 F__law_whole (aCons (e2 dIx (eVar 5) (eC (.int 0))) aNil)))) (tNotD (tV (eChain dLe dLe (e1 dNeg (eC (.int 1))) (e2 dIx (eVar 5) (eC (.int 0))) (eC (.int 1)))))))) (gRet (eC (.bool false))) gNil) (gSeq (gSet 6 (eL (c__law_is_hold_1 R__law_is_hold))) (gIf (tNotD (tV (eCall 4 R__law_is_hold (aCons (eVar 0) (aCons (eVar 6) (aCons (e2 dSub (eVar 2) (eC (.int 1))) (aCons (e2 dIx (eVar 5) (eC (.int 1))) aNil))))))) (gRet (eC (.bool false))) gNil))))
def g__law_is_hold (R__law_is_hold : List D → R D) : GS noObj := (gSeq (gIf (tOrD (tNotD (tV (e1 (dIsi "tuple") (eVar 3)))) (tOrD (tV (e2 dEqN (eVar 3) (eTup aNil))) (tNotD (tV (e1 (dIsi "str") (e2 dIx (eVar 3) (eC (.int 0)))))))) (gRet (eC (.bool false))) gNil) (gSeq (gIf (tV (e2 dEq (e2 dIx (eVar 3) (eC (.int 0))) (eC (.str (Str.ofString "many"))))) (gRet (eAnd (e2 dEq (eA dLen (aCons (eVar 3) aNil)) (eC (.int 1))) (e2 dGt (eA dLen (aCons (eVar 1) aNil)) (eCall 1 F__law_threes (aCons (eVar 2) aNil))))) gNil) (gSeq (gIf (tOrD (tV (e2 dNe (e2 dIx (eVar 3) (eC (.int 0))) (eC (.str (Str.ofString "each"))))) (tOrD (tV (e2 dNe (eA dLen (aCons (eVar 3) aNil)) (eC (.int 2)))) (tOrD (tV (e2 dEq (eVar 2) (eC (.int 0)))) (tNotD (tV (e1 (dIsi "tuple") (e2 dIx (eVar 3) (eC (.int 1))))))))) (gRet (eC (.bool false))) gNil) (gSeq (gIf (tV (e2 dNe (eA dLen (aCons (e2 dIx (eVar 3) (eC (.int 1))) aNil)) (eA dLen (aCons (eVar 0) aNil)))) (gRet (eC (.bool false))) gNil) (gSeq (gFor (iRng1 (aCons (eA dLen (aCons (eVar 0) aNil)) aNil)) (gN 4) (g__law_is_hold_L1 R__law_is_hold)) (gRet (eC (.bool true))))))))
theorem sc__law_is_hold : FnScope ["_law_pans_here", "_law_cases", "_law_number", "_law_thing", "_law_k", "_law_row", "_law_some", "_law_case"] ["_law_pans_here", "_law_cases", "_law_number", "_law_thing"] (defScope (top 44)) := ⟨rfl, rfl, rfl, by decide +kernel, rfl, by decide +kernel, by decide +kernel⟩
def F__law_is_hold : Nat → List D → R D
  | 0 => fun _ => .stuck
  | n + 1 => runF 8 (g__law_is_hold (F__law_is_hold n))
theorem dfs__law_is_hold (T : TF K mg) : ∀ n, Df P w K mg base (cA K) "_law_is_hold" (1 + n) 4 (F__law_is_hold n)
  | 0 => by
    obtain ⟨fd, FD⟩ := T.says.def_ 27 (d := dF "_law_is_hold" 44) rfl
    exact df_stuck FD (FD.bindsN (ps := ["_law_pans_here", "_law_cases", "_law_number", "_law_thing"]) fun _ _ _ _ _ _ us hl => match us, hl with | [_, _, _, _], _ => rfl) (T.glo 42)
  | n + 1 => by
    have IH__law_is_hold := dfs__law_is_hold T n
    obtain ⟨fd, FD⟩ := T.says.def_ 27 (d := dF "_law_is_hold" 44) rfl
    refine df_mk (B := noObj) (N := ["_law_pans_here", "_law_cases", "_law_number", "_law_thing", "_law_k", "_law_row", "_law_some", "_law_case"]) (ps := ["_law_pans_here", "_law_cases", "_law_number", "_law_thing"]) (k := 1 + n) (g := g__law_is_hold (F__law_is_hold n)) FD sc__law_is_hold (FD.bindsN (ps := ["_law_pans_here", "_law_cases", "_law_number", "_law_thing"]) fun _ _ _ _ _ _ us hl => match us, hl with | [_, _, _, _], _ => rfl) (T.glo 42) fun cdv A outer s H E G => ?_
    exact (dss_cons (ds_if (dt_w (dw_or (dt_not (dt_val (de_isi G.toGood.K (T.free 4) (T.free 14) boot_tupleT (de_var (i := 3) rfl (.inl rfl))))) (dw_or (dt_cmp (cEqN G.toGood.room) G.toGood.K (de_var (i := 3) rfl (.inl rfl)) (de_tup da_nil) (nomark _)) (dw_or1 (dt_not (dt_val (de_isi G.toGood.K (T.free 4) (T.free 12) boot_strT (de_ix G.toGood.K (de_var (i := 3) rfl (.inl rfl)) de_int)))))))) (dss_one (ds_ret de_bl)) dss_nil) (dss_cons (ds_if (dt_cmp (cEq G.toGood.room) G.toGood.K (de_ix G.toGood.K (de_var (i := 3) rfl (.inl rfl)) de_int) de_str (nomark _)) (dss_one (ds_ret (de_and (de_cmp (cEq G.toGood.room) G.toGood.K (de_len G.toGood.K (T.free 5) (da_cons (de_var (i := 3) rfl (.inl rfl)) da_nil)) de_int (nomark _)) (de_one (de_cmp cGt G.toGood.K (de_len G.toGood.K (T.free 5) (da_cons (de_var (i := 1) rfl (.inl rfl)) da_nil)) (de_call G.toGood (df__law_threes T) (by omega) (da_cons (de_var (i := 2) rfl (.inl rfl)) da_nil)) (nomark _)))))) dss_nil) (dss_cons (ds_if (dt_w (dw_or (dt_cmp (cNe G.toGood.room) G.toGood.K (de_ix G.toGood.K (de_var (i := 3) rfl (.inl rfl)) de_int) de_str (nomark _)) (dw_or (dt_cmp (cNe G.toGood.room) G.toGood.K (de_len G.toGood.K (T.free 5) (da_cons (de_var (i := 3) rfl (.inl rfl)) da_nil)) de_int (nomark _)) (dw_or (dt_cmp (cEq G.toGood.room) G.toGood.K (de_var (i := 2) rfl (.inl rfl)) de_int (nomark _)) (dw_or1 (dt_not (dt_val (de_isi G.toGood.K (T.free 4) (T.free 14) boot_tupleT (de_ix G.toGood.K (de_var (i := 3) rfl (.inl rfl)) de_int))))))))) (dss_one (ds_ret de_bl)) dss_nil) (dss_cons (ds_if (dt_cmp (cNe G.toGood.room) G.toGood.K (de_len G.toGood.K (T.free 5) (da_cons (de_ix G.toGood.K (de_var (i := 3) rfl (.inl rfl)) de_int) da_nil)) (de_len G.toGood.K (T.free 5) (da_cons (de_var (i := 0) rfl (.inr (.inl rfl))) da_nil)) (nomark _)) (dss_one (ds_ret de_bl)) dss_nil) (dss_cons (ds_for G (di_range1 (T.free 9) (da_cons (de_len G.toGood.K (T.free 5) (da_cons (de_var (i := 0) rfl (.inr (.inl rfl))) da_nil)) da_nil)) (dg_name (i := 4) G.toGood.nd rfl (.inr rfl)) (dss_cons (ds_set G.toGood.nd rfl (.inr rfl) (de_ix G.toGood.K (de_ix G.toGood.K (de_var (i := 3) rfl (.inl rfl)) de_int) (de_var (i := 4) rfl (.inr (.inl rfl))))) (dss_cons (ds_if (dt_w (dw_or (dt_not (dt_val (de_isi G.toGood.K (T.free 4) (T.free 14) boot_tupleT (de_var (i := 5) rfl (.inr (.inl rfl)))))) (dw_or (dt_cmp (cNe G.toGood.room) G.toGood.K (de_len G.toGood.K (T.free 5) (da_cons (de_var (i := 5) rfl (.inr (.inl rfl))) da_nil)) de_int (nomark _)) (dw_or (dt_not (dt_val (de_call G.toGood (df__law_whole T) (by omega) (da_cons (de_ix G.toGood.K (de_var (i := 5) rfl (.inr (.inl rfl))) de_int) da_nil)))) (dw_or1 (dt_not (dt_chain cLe cLe G.toGood.K (de_neg de_int) (de_ix G.toGood.K (de_var (i := 5) rfl (.inr (.inl rfl))) de_int) de_int))))))) (dss_one (ds_ret de_bl)) dss_nil) (dss_cons (ds_lcSet (ps_lc (own := [("_law_case", 7)]) (i := 6) G.toGood rfl rfl (sw_true rfl rfl rfl (by decide +kernel)) (di_seq G.toGood.K (de_var (i := 1) rfl (.inl rfl))) (blkOk_by (by kernel_rfl)) (fun _ _ _ _ _ => (dg_name (i := 7) G.toGood.nd rfl (.inl rfl))) (by decide) (fun _ _ _ _ _ G1 => (dts_one (dt_cmp (cEq G1.room) G1.K (de_call G1 (df__law_came T) (by omega) (da_cons (de_ix G1.K (de_var (i := 0) rfl (.inr (.inl rfl))) (de_var (i := 4) rfl (.inr (.inl rfl)))) (da_cons (de_var (i := 7) rfl (.inl rfl)) da_nil))) (de_ix G1.K (de_var (i := 5) rfl (.inr (.inl rfl))) de_int) (nomark _)))) (fun _ _ _ _ _ G1 => (de_var (i := 7) rfl (.inl rfl))))) (dss_one (ds_if (dt_not (dt_val (de_call G.toGood IH__law_is_hold (Nat.le_refl _) (da_cons (de_var (i := 0) rfl (.inr (.inl rfl))) (da_cons (de_var (i := 6) rfl (.inl rfl)) (da_cons (de_sub (de_var (i := 2) rfl (.inl rfl)) de_int) (da_cons (de_ix G.toGood.K (de_var (i := 5) rfl (.inr (.inl rfl))) de_int) da_nil))))))) (dss_one (ds_ret de_bl)) dss_nil)))))) (dss_one (ds_ret de_bl)))))))
theorem df__law_is_hold (T : TF K mg) (n : Nat) : Df P w K mg base (cA K) "_law_is_hold" (1 + n) 4 (F__law_is_hold n) := (dfs__law_is_hold T n)
/-! ### _law_two -/
def c__law_two_1 : Env noObj → R (List D) := (lLc (iRng1 (aCons (eVar 0) aNil)) (gN 5) tYesD (e2 dMul (eVar 1) (eA dInt (aCons (e2 dIn (eVar 5) (eTup (aCons (eVar 3) (aCons (eVar 4) aNil)))) aNil))) [5])
def g__law_two_L1 : GS noObj := (gApp 2 (eA dTuple (aCons (eL c__law_two_1) aNil)))
def g__law_two_L2 : GS noObj := (gFor (iRng1 (aCons (eVar 3) aNil)) (gN 4) g__law_two_L1)
def g__law_two : GS noObj := (gSeq (gOwn 2 (lDisp aNil)) (gSeq (gFor (iRng1 (aCons (eVar 0) aNil)) (gN 3) g__law_two_L2) (gRetO 2)))
def F__law_two : List D → R (List D) := runL 6 g__law_two
theorem sc__law_two : FnScope ["_law_many", "_law_worth", "_law_found", "_law_one_here", "_law_other", "_law_k"] ["_law_many", "_law_worth"] (defScope (top 45)) := ⟨rfl, rfl, rfl, by decide +kernel, rfl, by decide +kernel, by decide +kernel⟩
theorem df__law_two (T : TF K mg) : DfL P w K mg base (cA K) "_law_two" 1 2 F__law_two := by
  obtain ⟨fd, FD⟩ := T.says.def_ 28 (d := dF "_law_two" 45) rfl
  refine dfl_mk (B := noObj) (k := 0) (g := g__law_two) FD sc__law_two (FD.bindsN fun _ _ _ _ _ _ us hl => match us, hl with | [_, _], _ => rfl) (T.glo 43) fun cdv A outer s H E G => ?_
  exact (dss_cons (ds_own G.toGood.nd rfl (.inl rfl) (dl_lst da_nil)) (dss_cons (ds_for G (di_range1 (T.free 9) (da_cons (de_var (i := 0) rfl (.inl rfl)) da_nil)) (dg_name (i := 3) G.toGood.nd rfl (.inr rfl)) (dss_one (ds_for G (di_range1 (T.free 9) (da_cons (de_var (i := 3) rfl (.inr (.inl rfl))) da_nil)) (dg_name (i := 4) G.toGood.nd rfl (.inr rfl)) (dss_one (ds_app (i := 2) rfl (.inl rfl) (de_tuple G.toGood.K (T.free 14) (da_cons (de_l (dl_lc (own := [("_law_k", 5)]) G.toGood (di_range1 (T.free 9) (da_cons (de_var (i := 0) rfl (.inl rfl)) da_nil)) (blkOk_by (by kernel_rfl)) (fun _ _ _ _ _ => (dg_name (i := 5) G.toGood.nd rfl (.inl rfl))) (by decide) (fun _ _ _ _ _ G1 => dts_nil) (fun _ _ _ _ _ G1 => (de_mul G1.K (de_var (i := 1) rfl (.inr (.inl rfl))) (de_intc (T.free 3) (da_cons (de_cmp (cIn G1.room) G1.K (de_var (i := 5) rfl (.inl rfl)) (de_tup (da_cons (de_var (i := 3) rfl (.inr (.inl rfl))) (da_cons (de_var (i := 4) rfl (.inr (.inl rfl))) da_nil))) rfl) da_nil)))))) da_nil))))))) (dss_one (ds_retO (i := 2) rfl (.inl rfl)))))
/-! ### _law_one -/
def c__law_one_1 : Env noObj → R (List D) := (lLc (iRng1 (aCons (eVar 0) aNil)) (gN 3) tYesD (e2 dMul (eVar 1) (eA dInt (aCons (e2 dEq (eVar 3) (eVar 2)) aNil))) [3])
def c__law_one_2 : Env noObj → R (List D) := (lLc (iRng1 (aCons (eVar 0) aNil)) (gN 2) tYesD (eA dTuple (aCons (eL c__law_one_1) aNil)) [2])
def g__law_one : GS noObj := (gRetL c__law_one_2)
def F__law_one : List D → R (List D) := runL 4 g__law_one
theorem sc__law_one : FnScope ["_law_many", "_law_worth", "_law_one_here", "_law_k"] ["_law_many", "_law_worth"] (defScope (top 46)) := ⟨rfl, rfl, rfl, by decide +kernel, rfl, by decide +kernel, by decide +kernel⟩
theorem df__law_one (T : TF K mg) : DfL P w K mg base (cA K) "_law_one" 1 2 F__law_one := by
  obtain ⟨fd, FD⟩ := T.says.def_ 29 (d := dF "_law_one" 46) rfl
  refine dfl_mk (B := noObj) (k := 0) (g := g__law_one) FD sc__law_one (FD.bindsN fun _ _ _ _ _ _ us hl => match us, hl with | [_, _], _ => rfl) (T.glo 44) fun cdv A outer s H E G => ?_
  exact (dss_one (ds_retL (dl_lc (own := [("_law_one_here", 2)]) G.toGood (di_range1 (T.free 9) (da_cons (de_var (i := 0) rfl (.inr (.inl rfl))) da_nil)) (blkOk_by (by kernel_rfl)) (fun _ _ _ _ _ => (dg_name (i := 2) G.toGood.nd rfl (.inr rfl))) (by decide) (fun _ _ _ _ _ G1 => dts_nil) (fun _ _ _ _ _ G1 => (de_tuple G1.K (T.free 14) (da_cons (de_l (dl_lc (own := [("_law_k", 3)]) G1 (di_range1 (T.free 9) (da_cons (de_var (i := 0) rfl (.inr (.inl rfl))) da_nil)) (blkOk_by (by kernel_rfl)) (fun _ _ _ _ _ => (dg_name (i := 3) G1.nd rfl (.inl rfl))) (by decide) (fun _ _ _ _ _ G2 => dts_nil) (fun _ _ _ _ _ G2 => (de_mul G2.K (de_var (i := 1) rfl (.inr (.inl rfl))) (de_intc (T.free 3) (da_cons (de_cmp (cEq G2.room) G2.K (de_var (i := 3) rfl (.inl rfl)) (de_var (i := 2) rfl (.inr (.inl rfl))) (nomark _)) da_nil)))))) da_nil))))))
/-! ### _law_any -/
def c__law_any_1 : Env noObj → R (List D) := (lLc (iSeq (eVar 1)) (gN 3) tYesD (e2 dAdd (eVar 3) (eTup (aCons (eC (.int 0)) aNil))) [3])
def c__law_any_2 : Env noObj → R (List D) := (lLc (iSeq (eVar 1)) (gN 3) tYesD (e2 dAdd (eVar 3) (eTup (aCons (eC (.int 1)) aNil))) [3])
def g__law_any_L1 : GS noObj := (gFrz 1 (gOwn 1 (lCat (eL c__law_any_1) (eL c__law_any_2))))
def g__law_any : GS noObj := (gSeq (gOwn 1 (lDisp (aCons (eTup aNil) aNil))) (gSeq (gFor (iRng1 (aCons (eVar 0) aNil)) (gN 2) g__law_any_L1) (gRetO 1)))
def F__law_any : List D → R (List D) := runL 4 g__law_any
theorem sc__law_any : FnScope ["_law_many", "_law_found", "_law_turn", "_law_case"] ["_law_many"] (defScope (top 47)) := ⟨rfl, rfl, rfl, by decide +kernel, rfl, by decide +kernel, by decide +kernel⟩
theorem df__law_any (T : TF K mg) : DfL P w K mg base (cA K) "_law_any" 1 1 F__law_any := by
  obtain ⟨fd, FD⟩ := T.says.def_ 30 (d := dF "_law_any" 47) rfl
  refine dfl_mk (B := noObj) (k := 0) (g := g__law_any) FD sc__law_any (FD.bindsN fun _ _ _ _ _ _ us hl => match us, hl with | [_], _ => rfl) (T.glo 45) fun cdv A outer s H E G => ?_
  exact (dss_cons (ds_own G.toGood.nd rfl (.inl rfl) (dl_lst (da_cons (de_tup da_nil) da_nil))) (dss_cons (ds_for G (di_range1 (T.free 9) (da_cons (de_var (i := 0) rfl (.inl rfl)) da_nil)) (dg_name (i := 2) G.toGood.nd rfl (.inl rfl)) (dss_frz 1 (dss_one (ds_own G.toGood.nd rfl (.inl rfl) (dl_cat G.toGood.K (de_l (dl_lc (own := [("_law_case", 3)]) G.toGood (di_seq G.toGood.K (de_var (i := 1) rfl (.inl rfl))) (blkOk_by (by kernel_rfl)) (fun _ _ _ _ _ => (dg_name (i := 3) G.toGood.nd rfl (.inl rfl))) (by decide) (fun _ _ _ _ _ G1 => dts_nil) (fun _ _ _ _ _ G1 => (de_add G1.K (de_var (i := 3) rfl (.inl rfl)) (de_tup (da_cons de_int da_nil)))))) (de_l (dl_lc (own := [("_law_case", 3)]) G.toGood (di_seq G.toGood.K (de_var (i := 1) rfl (.inl rfl))) (blkOk_by (by kernel_rfl)) (fun _ _ _ _ _ => (dg_name (i := 3) G.toGood.nd rfl (.inl rfl))) (by decide) (fun _ _ _ _ _ G1 => dts_nil) (fun _ _ _ _ _ G1 => (de_add G1.K (de_var (i := 3) rfl (.inl rfl)) (de_tup (da_cons de_int da_nil))))))))))) (dss_one (ds_retO (i := 1) rfl (.inl rfl)))))
/-! ### _law_known -/
def g__law_known : GS noObj := (gSeq (gSet 2 (eLst (aCons (e2 dMul (eTup (aCons (eC (.int 0)) aNil)) (eVar 1)) aNil))) (gSeq (gIf (tV (e2 dLt (eVar 0) (eC (.int 2)))) (gRetP (lCall 2 F__law_one (aCons (eVar 1) (aCons (e2 dIx (eLst (aCons (eC (.int 1)) (aCons (e1 dNeg (eC (.int 1))) aNil))) (eVar 0)) aNil))) (e2 dIx (eLst (aCons (eC (.int 1)) (aCons (eC (.int 1)) (aCons (eC (.int 2)) (aCons (eC (.int 2)) aNil))))) (e2 dSub (eVar 1) (eC (.int 2))))) gNil) (gSeq (gIf (tV (e2 dEq (eVar 0) (eC (.int 2)))) (gRetP (lCat (eCall 2 (listR F__law_one) (aCons (eVar 1) (aCons (eC (.int 1)) aNil))) (eCall 2 (listR F__law_one) (aCons (eVar 1) (aCons (e1 dNeg (eC (.int 1))) aNil)))) (e2 dIx (eLst (aCons (eC .none) (aCons (eC (.int 2)) (aCons (eC (.int 3)) (aCons (eC (.int 3)) aNil))))) (e2 dSub (eVar 1) (eC (.int 2))))) gNil) (gSeq (gIf (tV (e2 dEq (eVar 0) (eC (.int 3)))) (gRetP (lCat (e2 dAdd (eCall 2 (listR F__law_one) (aCons (eVar 1) (aCons (eC (.int 1)) aNil))) (eCall 2 (listR F__law_one) (aCons (eVar 1) (aCons (e1 dNeg (eC (.int 1))) aNil)))) (eVar 2)) (e2 dIx (eLst (aCons (eC .none) (aCons (eC (.int 2)) (aCons (eC (.int 3)) (aCons (eC (.int 3)) aNil))))) (e2 dSub (eVar 1) (eC (.int 2))))) gNil) (gSeq (gIf (tV (e2 dLt (eVar 0) (eC (.int 6)))) (gRetP (lCall 2 F__law_two (aCons (eVar 1) (aCons (e2 dIx (eLst (aCons (eC (.int 1)) (aCons (e1 dNeg (eC (.int 1))) aNil))) (e2 dSub (eVar 0) (eC (.int 4)))) aNil))) (e2 dIx (eLst (aCons (eC (.int 0)) (aCons (eC (.int 1)) (aCons (eC (.int 2)) (aCons (eC (.int 3)) aNil))))) (e2 dSub (eVar 1) (eC (.int 2))))) gNil) (gRetP (lCall 1 F__law_any (aCons (eA dMin (aCons (eVar 1) (aCons (eC (.int 3)) aNil))) aNil)) (eC .none)))))))
def F__law_known : List D → R (List D × D) := runP 3 g__law_known
theorem sc__law_known : FnScope ["_law_kind", "_law_many", "_law_none"] ["_law_kind", "_law_many"] (defScope (top 48)) := ⟨rfl, rfl, rfl, by decide +kernel, rfl, by decide +kernel, by decide +kernel⟩
theorem df__law_known (T : TF K mg) : DfP P w K mg base (cA K) "_law_known" 2 2 F__law_known := by
  obtain ⟨fd, FD⟩ := T.says.def_ 31 (d := dF "_law_known" 48) rfl
  refine dfp_mk (B := noObj) (k := 1) (g := g__law_known) FD sc__law_known (FD.bindsN fun _ _ _ _ _ _ us hl => match us, hl with | [_, _], _ => rfl) (T.glo 46) fun cdv A outer s H E G => ?_
  exact (dss_cons (ds_set G.toGood.nd rfl (.inl rfl) (de_lst (da_cons (de_mul G.toGood.K (de_tup (da_cons de_int da_nil)) (de_var (i := 1) rfl (.inl rfl))) da_nil))) (dss_cons (ds_if (dt_cmp cLt G.toGood.K (de_var (i := 0) rfl (.inl rfl)) de_int (nomark _)) (dss_one (ds_retP (dl_call G.toGood (df__law_one T) (by decide) (da_cons (de_var (i := 1) rfl (.inl rfl)) (da_cons (de_ix G.toGood.K (de_lst (da_cons de_int (da_cons (de_neg de_int) da_nil))) (de_var (i := 0) rfl (.inl rfl))) da_nil))) (de_ix G.toGood.K (de_lst (da_cons de_int (da_cons de_int (da_cons de_int (da_cons de_int da_nil))))) (de_sub (de_var (i := 1) rfl (.inl rfl)) de_int)))) dss_nil) (dss_cons (ds_if (dt_cmp (cEq G.toGood.room) G.toGood.K (de_var (i := 0) rfl (.inl rfl)) de_int (nomark _)) (dss_one (ds_retP (dl_cat G.toGood.K (de_call G.toGood (DfS.toD (df__law_one T)) (by decide) (da_cons (de_var (i := 1) rfl (.inl rfl)) (da_cons de_int da_nil))) (de_call G.toGood (DfS.toD (df__law_one T)) (by decide) (da_cons (de_var (i := 1) rfl (.inl rfl)) (da_cons (de_neg de_int) da_nil)))) (de_ix G.toGood.K (de_lst (da_cons de_non (da_cons de_int (da_cons de_int (da_cons de_int da_nil))))) (de_sub (de_var (i := 1) rfl (.inl rfl)) de_int)))) dss_nil) (dss_cons (ds_if (dt_cmp (cEq G.toGood.room) G.toGood.K (de_var (i := 0) rfl (.inl rfl)) de_int (nomark _)) (dss_one (ds_retP (dl_cat G.toGood.K (de_add G.toGood.K (de_call G.toGood (DfS.toD (df__law_one T)) (by decide) (da_cons (de_var (i := 1) rfl (.inl rfl)) (da_cons de_int da_nil))) (de_call G.toGood (DfS.toD (df__law_one T)) (by decide) (da_cons (de_var (i := 1) rfl (.inl rfl)) (da_cons (de_neg de_int) da_nil)))) (de_var (i := 2) rfl (.inl rfl))) (de_ix G.toGood.K (de_lst (da_cons de_non (da_cons de_int (da_cons de_int (da_cons de_int da_nil))))) (de_sub (de_var (i := 1) rfl (.inl rfl)) de_int)))) dss_nil) (dss_cons (ds_if (dt_cmp cLt G.toGood.K (de_var (i := 0) rfl (.inl rfl)) de_int (nomark _)) (dss_one (ds_retP (dl_call G.toGood (df__law_two T) (by decide) (da_cons (de_var (i := 1) rfl (.inl rfl)) (da_cons (de_ix G.toGood.K (de_lst (da_cons de_int (da_cons (de_neg de_int) da_nil))) (de_sub (de_var (i := 0) rfl (.inl rfl)) de_int)) da_nil))) (de_ix G.toGood.K (de_lst (da_cons de_int (da_cons de_int (da_cons de_int (da_cons de_int da_nil))))) (de_sub (de_var (i := 1) rfl (.inl rfl)) de_int)))) dss_nil) (dss_one (ds_retP (dl_call G.toGood (df__law_any T) (by decide) (da_cons (de_min G.toGood.K G.toGood.calm (T.free 8) (da_cons (de_var (i := 1) rfl (.inl rfl)) (da_cons de_int da_nil))) da_nil)) de_non)))))))
/-! ### law -/
def g_law_L1 : GS noObj := (gSeq (gAppPop 5 3 (eBor 3 (e2 dMod (eVar 6) (eA dLen (aCons (eVar 3) aNil))))) (gSet 6 (e2 dAdd (e2 dDiv (eVar 6) (eC (.int 3))) (eC (.int 5)))))
def g_law : GS noObj := (gSeq (gSet 1 (e2 dAdd (eC (.int 2)) (e2 dMod (eCall 2 F__law_cell_at (aCons (eVar 0) (aCons (eC (.int 0)) aNil))) (eC (.int 4))))) (gSeq (gSet 2 (e2 dMod (e2 dDiv (eCall 2 F__law_cell_at (aCons (eVar 0) (aCons (eC (.int 0)) aNil))) (eC (.int 4))) (eC (.int 7)))) (gSeq (gIf (tV (e2 dEq (eVar 2) (eC (.int 6)))) (gSet 1 (eA dMin (aCons (eVar 1) (aCons (eC (.int 3)) aNil)))) gNil) (gSeq (gTgtP 3 4 2 F__law_known (aCons (eVar 2) (aCons (eVar 1) aNil))) (gSeq (gOwn 5 (lDisp aNil)) (gSeq (gSet 6 (eCall 2 F__law_mixed (aCons (eVar 0) (aCons (eC (.int 1)) aNil)))) (gSeq (whileF (tBor 3 (tV (e2 dNe (eVar 3) (eLst aNil)))) g_law_L1 60) (gFrz 5 (gSeq (gSet 7 (eCall 3 F_told (aCons (eVar 1) (aCons (eA dList (aCons (eVar 5) aNil)) (aCons (eLst aNil) aNil))))) (gSeq (gIf (tV (e2 dNe (e2 dIx (eVar 7) (eC (.int 0))) (e2 dIx (eLst (aCons (eC (.str (Str.ofString "plan"))) (aCons (eC (.str (Str.ofString "alike"))) aNil))) (eA dInt (aCons (e2 dIs (eVar 4) (eC .none)) aNil))))) (gRet (eC (.bool false))) gNil) (gSeq (gSet 8 (eCall 3 F_least (aCons (eVar 1) (aCons (eA dList (aCons (eVar 5) aNil)) (aCons (eLst aNil) aNil))))) (gSeq (gIf (tV (e2 dIs (eVar 4) (eC .none))) (gRet (e2 dIs (eVar 8) (eC .none))) gNil) (gSeq (gIf (tOrD (tNotD (tV (eCall 1 F__law_whole (aCons (eVar 8) aNil)))) (tOrD (tV (e2 dNe (eVar 8) (eVar 4))) (tNotD (tV (eCall 3 (F__law_is_plan 40) (aCons (eVar 1) (aCons (eVar 5) (aCons (e2 dIx (eVar 7) (eC (.int 1))) aNil)))))))) (gRet (eC (.bool false))) gNil) (gSeq (gIf (tOrD (tV (e2 dNe (eCall 1 (F__law_length 40) (aCons (e2 dIx (eVar 7) (eC (.int 1))) aNil)) (eVar 4))) (tV (e2 dEq (eVar 4) (eC (.int 0))))) (gRet (eAnd (e2 dEq (eVar 4) (eC (.int 0))) (eAnd (e2 dEq (e2 dIx (eVar 7) (eC (.int 1))) (eTup (aCons (eC (.str (Str.ofString "told"))) (aCons (e2 dIx (eVar 5) (eC (.int 0))) aNil)))) (e2 dIs (e2 dIx (eVar 7) (eC (.int 2))) (eC .none))))) gNil) (gRet (eCall 4 (F__law_is_hold 20) (aCons (eCall 1 (listR F__law_pans) (aCons (eVar 1) aNil)) (aCons (eVar 5) (aCons (e2 dSub (eVar 4) (eC (.int 1))) (aCons (e2 dIx (eVar 7) (eC (.int 2))) aNil))))))))))))))))))))
def F_law : List D → R D := runF 9 g_law
theorem sc_law : FnScope ["_law_script", "_law_many", "_law_kind", "_law_left", "_law_due", "_law_cases", "_law_number", "_law_found", "_law_size"] ["_law_script"] (defScope (top 49)) := ⟨rfl, rfl, rfl, by decide +kernel, rfl, by decide +kernel, by decide +kernel⟩
abbrev lawC (P : Program) (w : World) (K : PySem.W.Frag) (mg : Str → Option Value) (base : Heap) (cdv : Value) (A : Around) (outer : List PySem.Env) (s : Shared) (H : Hp) (E : XK) : Cx := bodyC P w K mg base ["_law_script", "_law_many", "_law_kind", "_law_left", "_law_due", "_law_cases", "_law_number", "_law_found", "_law_size"] (dF "law" 49).qual (dF "law" 49).scope (He.fAd K (dF "law" 49).at_) cdv A outer s H E
theorem body_law (T : TF K mg) {cdv : Value} {A : Around} {outer : List PySem.Env} {s : Shared} {H : Hp} {E : XK} (G : GoodS (B := noObj) (lawC P w K mg base cdv A outer s H E) ⟨K, cA K, E⟩ 93) : DSs (lawC P w K mg base cdv A outer s H E) ⟨K, cA K, E⟩ (dF "law" 49).body g_law := by
  exact (dss_cons (ds_set G.toGood.nd rfl (.inl rfl) (de_add G.toGood.K de_int (de_mod (de_call G.toGood (df__law_cell_at T) (by decide) (da_cons (de_var (i := 0) rfl (.inl rfl)) (da_cons de_int da_nil))) de_int))) (dss_cons (ds_set G.toGood.nd rfl (.inl rfl) (de_mod (de_div (de_call G.toGood (df__law_cell_at T) (by decide) (da_cons (de_var (i := 0) rfl (.inl rfl)) (da_cons de_int da_nil))) de_int) de_int)) (dss_cons (ds_if (dt_cmp (cEq G.toGood.room) G.toGood.K (de_var (i := 2) rfl (.inl rfl)) de_int (nomark _)) (dss_one (ds_set G.toGood.nd rfl (.inl rfl) (de_min G.toGood.K G.toGood.calm (T.free 8) (da_cons (de_var (i := 1) rfl (.inl rfl)) (da_cons de_int da_nil))))) dss_nil) (dss_cons (ds_tgtP (i := 3) (j := 4) G.toGood (df__law_known T) (by decide) (da_cons (de_var (i := 2) rfl (.inl rfl)) (da_cons (de_var (i := 1) rfl (.inl rfl)) da_nil)) G.toGood.nd rfl (.inl rfl) rfl (.inl rfl)) (dss_cons (ds_own G.toGood.nd rfl (.inl rfl) (dl_lst da_nil)) (dss_cons (ds_set G.toGood.nd rfl (.inl rfl) (de_call G.toGood (df__law_mixed T) (by decide) (da_cons (de_var (i := 0) rfl (.inl rfl)) (da_cons de_int da_nil)))) (dss_cons (ds_while 60 G (dt_bor 3 (dt_cmp (cNe G.toGood.room) G.toGood.K (de_var (i := 3) rfl (.inl rfl)) (de_lst da_nil) (nomark _))) (dss_cons (ds_appPop (i := 5) (b := 3) rfl (.inl rfl) rfl (.inl rfl) (de_bor 3 (de_mod (de_var (i := 6) rfl (.inl rfl)) (de_len G.toGood.K (T.free 5) (da_cons (de_var (i := 3) rfl (.inl rfl)) da_nil))))) (dss_one (ds_set G.toGood.nd rfl (.inl rfl) (de_add G.toGood.K (de_div (de_var (i := 6) rfl (.inl rfl)) de_int) de_int))))) (dss_frz 5 (dss_cons (ds_set G.toGood.nd rfl (.inl rfl) (de_call G.toGood (df_told T) (by decide) (da_cons (de_var (i := 1) rfl (.inl rfl)) (da_cons (de_list G.toGood.K (T.free 6) (da_cons (de_var (i := 5) rfl (.inl rfl)) da_nil)) (da_cons (de_lst da_nil) da_nil))))) (dss_cons (ds_if (dt_cmp (cNe G.toGood.room) G.toGood.K (de_ix G.toGood.K (de_var (i := 7) rfl (.inl rfl)) de_int) (de_ix G.toGood.K (de_lst (da_cons de_str (da_cons de_str da_nil))) (de_intc (T.free 3) (da_cons (de_cmp cIs G.toGood.K (de_var (i := 4) rfl (.inl rfl)) de_non (nomark _)) da_nil))) (nomark _)) (dss_one (ds_ret de_bl)) dss_nil) (dss_cons (ds_set G.toGood.nd rfl (.inl rfl) (de_call G.toGood (df_least T) (by decide) (da_cons (de_var (i := 1) rfl (.inl rfl)) (da_cons (de_list G.toGood.K (T.free 6) (da_cons (de_var (i := 5) rfl (.inl rfl)) da_nil)) (da_cons (de_lst da_nil) da_nil))))) (dss_cons (ds_if (dt_cmp cIs G.toGood.K (de_var (i := 4) rfl (.inl rfl)) de_non (nomark _)) (dss_one (ds_ret (de_cmp cIs G.toGood.K (de_var (i := 8) rfl (.inl rfl)) de_non (nomark _)))) dss_nil) (dss_cons (ds_if (dt_w (dw_or (dt_not (dt_val (de_call G.toGood (df__law_whole T) (by decide) (da_cons (de_var (i := 8) rfl (.inl rfl)) da_nil)))) (dw_or (dt_cmp (cNe G.toGood.room) G.toGood.K (de_var (i := 8) rfl (.inl rfl)) (de_var (i := 4) rfl (.inl rfl)) (nomark _)) (dw_or1 (dt_not (dt_val (de_call G.toGood (df__law_is_plan T 40) (by decide) (da_cons (de_var (i := 1) rfl (.inl rfl)) (da_cons (de_var (i := 5) rfl (.inl rfl)) (da_cons (de_ix G.toGood.K (de_var (i := 7) rfl (.inl rfl)) de_int) da_nil)))))))))) (dss_one (ds_ret de_bl)) dss_nil) (dss_cons (ds_if (dt_w (dw_or (dt_cmp (cNe G.toGood.room) G.toGood.K (de_call G.toGood (df__law_length T 40) (by decide) (da_cons (de_ix G.toGood.K (de_var (i := 7) rfl (.inl rfl)) de_int) da_nil)) (de_var (i := 4) rfl (.inl rfl)) (nomark _)) (dw_or1 (dt_cmp (cEq G.toGood.room) G.toGood.K (de_var (i := 4) rfl (.inl rfl)) de_int (nomark _))))) (dss_one (ds_ret (de_and (de_cmp (cEq G.toGood.room) G.toGood.K (de_var (i := 4) rfl (.inl rfl)) de_int (nomark _)) (de_and (de_cmp (cEq G.toGood.room) G.toGood.K (de_ix G.toGood.K (de_var (i := 7) rfl (.inl rfl)) de_int) (de_tup (da_cons de_str (da_cons (de_ix G.toGood.K (de_var (i := 5) rfl (.inl rfl)) de_int) da_nil))) (nomark _)) (de_one (de_cmp cIs G.toGood.K (de_ix G.toGood.K (de_var (i := 7) rfl (.inl rfl)) de_int) de_non (nomark _))))))) dss_nil) (dss_one (ds_ret (de_call G.toGood (df__law_is_hold T 20) (by decide) (da_cons (de_call G.toGood (DfS.toD (df__law_pans T)) (by decide) (da_cons (de_var (i := 1) rfl (.inl rfl)) da_nil)) (da_cons (de_var (i := 5) rfl (.inl rfl)) (da_cons (de_sub (de_var (i := 4) rfl (.inl rfl)) de_int) (da_cons (de_ix G.toGood.K (de_var (i := 7) rfl (.inl rfl)) de_int) da_nil)))))))))))))))))))))
theorem ok_law (T : TF K mg) {fd : FuncData} (FD : FunD K (dF "law" 49).name (dF "law" 49).qual (dF "law" 49).params (dF "law" 49).body (dF "law" 49).scope ((dF "law" 49).dvs K) ((dF "law" 49).kws K) (He.fAd K (dF "law" 49).at_) fd) : FnOk P w K mg base (L2N.CX P w) 94 (He.fAd K (dF "law" 49).at_) fd ["_law_script"] (spD K (cA K) 1 F_law) := by
  refine fnok_mk (B := noObj) (cA := cA K) (N := ["_law_script", "_law_many", "_law_kind", "_law_left", "_law_due", "_law_cases", "_law_number", "_law_found", "_law_size"]) (ps := ["_law_script"]) (k := 93) (g := g_law) FD sc_law fun cdv A outer s H E G => ?_
  exact body_law T G
end W

set_option Elab.async false
set_option linter.all false
set_option maxRecDepth 100000
set_option maxHeartbeats 1000000
namespace W
open PySem PL
/-! ### is_among, need_many -/
def amongB (a b : Int) : D → Bool
  | .int z => decide (a ≤ z) && decide (z ≤ b)
  | _ => false
theorem F_is_among_eq (t : D) (h : tyD t ≠ none) (a b : Int) : F_is_among [t, .int a, .int b] = .ok (.bool (amongB a b t)) := by
  unfold F_is_among g_is_among
  simp only [dIx_t0, dIx_t1, dIx_l0, dIx_l1, toItems, itemsOf, runF, runL, startE, endF, endL, R.bind_ok, R.bind_exc, R.bind_stuck, gSeq, gIf, gSet, gOwn, gRet, gRetL, gRetO, gDrop, gTgt, gT, gsC, gsN, gN, gFor, gApp, gExt, gFrz, gNil, gExc, eVar, eC, e1, e2, eA, aNil, aCons, eTup, eLst, eCall, lCall, listR, eChain, tV, tAndD, tOrD, tNotD, eAnd, eOr, eNot, eIf, eL, lDisp, lList, lRep, oNone, oSome, eSl, iSeq, iRng1, iRng2, iZipD, iEnumD, iRevD, lListRange, lLc, eSorted, eSortSet, eLenSet, eBor, tBor, tYesD, noE, toB, dCmp, dSub, dNeg, dInt, dLen, dIs, dIsNot, List.map_cons, List.map_nil, List.length_cons, List.length_nil, Nat.reduceAdd, Nat.reduceSub, Nat.reduceLeDiff, List.replicate, List.cons_append, List.nil_append, List.append_nil, List.getElem?_cons_zero, List.getElem?_cons_succ, List.set_cons_zero, List.set_cons_succ, if_true, if_false, reduceIte, Bool.not_true, Bool.not_false, Bool.false_eq_true, reduceCtorEq, isi_int t h, isi_bool t h]
  cases t
  case int z => by_cases h1 : a ≤ z <;> simp only [dIx_t0, dIx_t1, dIx_l0, dIx_l1, toItems, itemsOf, runF, runL, startE, endF, endL, R.bind_ok, R.bind_exc, R.bind_stuck, gSeq, gIf, gSet, gOwn, gRet, gRetL, gRetO, gDrop, gTgt, gT, gsC, gsN, gN, gFor, gApp, gExt, gFrz, gNil, gExc, eVar, eC, e1, e2, eA, aNil, aCons, eTup, eLst, eCall, lCall, listR, eChain, tV, tAndD, tOrD, tNotD, eAnd, eOr, eNot, eIf, eL, lDisp, lList, lRep, oNone, oSome, eSl, iSeq, iRng1, iRng2, iZipD, iEnumD, iRevD, lListRange, lLc, eSorted, eSortSet, eLenSet, eBor, tBor, tYesD, noE, toB, dCmp, dSub, dNeg, dInt, dLen, dIs, dIsNot, List.map_cons, List.map_nil, List.length_cons, List.length_nil, Nat.reduceAdd, Nat.reduceSub, Nat.reduceLeDiff, List.replicate, List.cons_append, List.nil_append, List.append_nil, List.getElem?_cons_zero, List.getElem?_cons_succ, List.set_cons_zero, List.set_cons_succ, if_true, if_false, reduceIte, Bool.not_true, Bool.not_false, Bool.false_eq_true, reduceCtorEq, amongB, h1, decide_true, decide_false, Bool.true_and, Bool.false_and]
  all_goals simp only [dIx_t0, dIx_t1, dIx_l0, dIx_l1, toItems, itemsOf, runF, runL, startE, endF, endL, R.bind_ok, R.bind_exc, R.bind_stuck, gSeq, gIf, gSet, gOwn, gRet, gRetL, gRetO, gDrop, gTgt, gT, gsC, gsN, gN, gFor, gApp, gExt, gFrz, gNil, gExc, eVar, eC, e1, e2, eA, aNil, aCons, eTup, eLst, eCall, lCall, listR, eChain, tV, tAndD, tOrD, tNotD, eAnd, eOr, eNot, eIf, eL, lDisp, lList, lRep, oNone, oSome, eSl, iSeq, iRng1, iRng2, iZipD, iEnumD, iRevD, lListRange, lLc, eSorted, eSortSet, eLenSet, eBor, tBor, tYesD, noE, toB, dCmp, dSub, dNeg, dInt, dLen, dIs, dIsNot, List.map_cons, List.map_nil, List.length_cons, List.length_nil, Nat.reduceAdd, Nat.reduceSub, Nat.reduceLeDiff, List.replicate, List.cons_append, List.nil_append, List.append_nil, List.getElem?_cons_zero, List.getElem?_cons_succ, List.set_cons_zero, List.set_cons_succ, if_true, if_false, reduceIte, Bool.not_true, Bool.not_false, Bool.false_eq_true, reduceCtorEq, amongB]
theorem F_need_many_eq (t : D) (h : tyD t ≠ none) : F_need_many [t] = if amongB 2 5 t = true then .ok .none else .exc 1 := by
  unfold F_need_many g_need_many
  simp only [dIx_t0, dIx_t1, dIx_l0, dIx_l1, toItems, itemsOf, runF, runL, startE, endF, endL, R.bind_ok, R.bind_exc, R.bind_stuck, gSeq, gIf, gSet, gOwn, gRet, gRetL, gRetO, gDrop, gTgt, gT, gsC, gsN, gN, gFor, gApp, gExt, gFrz, gNil, gExc, eVar, eC, e1, e2, eA, aNil, aCons, eTup, eLst, eCall, lCall, listR, eChain, tV, tAndD, tOrD, tNotD, eAnd, eOr, eNot, eIf, eL, lDisp, lList, lRep, oNone, oSome, eSl, iSeq, iRng1, iRng2, iZipD, iEnumD, iRevD, lListRange, lLc, eSorted, eSortSet, eLenSet, eBor, tBor, tYesD, noE, toB, dCmp, dSub, dNeg, dInt, dLen, dIs, dIsNot, List.map_cons, List.map_nil, List.length_cons, List.length_nil, Nat.reduceAdd, Nat.reduceSub, Nat.reduceLeDiff, List.replicate, List.cons_append, List.nil_append, List.append_nil, List.getElem?_cons_zero, List.getElem?_cons_succ, List.set_cons_zero, List.set_cons_succ, if_true, if_false, reduceIte, Bool.not_true, Bool.not_false, Bool.false_eq_true, reduceCtorEq, F_is_among_eq t h]
  cases amongB 2 5 t <;> simp only [dIx_t0, dIx_t1, dIx_l0, dIx_l1, toItems, itemsOf, runF, runL, startE, endF, endL, R.bind_ok, R.bind_exc, R.bind_stuck, gSeq, gIf, gSet, gOwn, gRet, gRetL, gRetO, gDrop, gTgt, gT, gsC, gsN, gN, gFor, gApp, gExt, gFrz, gNil, gExc, eVar, eC, e1, e2, eA, aNil, aCons, eTup, eLst, eCall, lCall, listR, eChain, tV, tAndD, tOrD, tNotD, eAnd, eOr, eNot, eIf, eL, lDisp, lList, lRep, oNone, oSome, eSl, iSeq, iRng1, iRng2, iZipD, iEnumD, iRevD, lListRange, lLc, eSorted, eSortSet, eLenSet, eBor, tBor, tYesD, noE, toB, dCmp, dSub, dNeg, dInt, dLen, dIs, dIsNot, List.map_cons, List.map_nil, List.length_cons, List.length_nil, Nat.reduceAdd, Nat.reduceSub, Nat.reduceLeDiff, List.replicate, List.cons_append, List.nil_append, List.append_nil, List.getElem?_cons_zero, List.getElem?_cons_succ, List.set_cons_zero, List.set_cons_succ, if_true, if_false, reduceIte, Bool.not_true, Bool.not_false, Bool.false_eq_true, reduceCtorEq]
theorem map_bool_all {α : Type} (p : α → Bool) (xs : List α) : dAll [.list (xs.map fun x => PyData.bool (p x))] = .ok (.bool (xs.all p)) := by
  have e : (xs.map fun x => PyData.bool (p x)) = (xs.map p).map PyData.bool := by rw [List.map_map]; rfl
  rw [e]
  simp only [dAll, boolsOf_map, List.all_map]
  rfl
theorem all_among {a b : Int} {xs : List D} (h : xs.all (amongB a b) = true) : ∃ ns : List Int, xs = ns.map PyData.int ∧ ∀ z ∈ ns, a ≤ z ∧ z ≤ b := by
  induction xs with
  | nil => exact ⟨[], rfl, by simp⟩
  | cons x r ih =>
    rw [List.all_cons, Bool.and_eq_true] at h
    obtain ⟨ns, rfl, h2⟩ := ih h.2
    cases x with
    | int z => exact ⟨z :: ns, rfl, fun y hy => (List.mem_cons.mp hy).elim (fun e => by subst e; simpa [amongB] using h.1) (h2 y)⟩
    | _ => simp [amongB] at h
/-! ### is_case, need_cases -/
def isCaseB (m : Int) : D → Bool
  | .tuple xs => decide ((xs.length : Int) = m) && xs.all (amongB (-1) 1)
  | _ => false
theorem c_case (m : Int) (xs : List D) (hx : ∀ x ∈ xs, tyD x ≠ none) (hl : xs.length ≤ 100000) : c_is_case_1 [.val (.int m), .val (.tuple xs), .no] = .ok (xs.map fun x => .bool (amongB (-1) 1 x)) := by
  unfold c_is_case_1
  simp only [dIx_t0, dIx_t1, dIx_l0, dIx_l1, toItems, itemsOf, runF, runL, startE, endF, endL, R.bind_ok, R.bind_exc, R.bind_stuck, gSeq, gIf, gSet, gOwn, gRet, gRetL, gRetO, gDrop, gTgt, gT, gsC, gsN, gN, gFor, gApp, gExt, gFrz, gNil, gExc, eVar, eC, e1, e2, eA, aNil, aCons, eTup, eLst, eCall, lCall, listR, eChain, tV, tAndD, tOrD, tNotD, eAnd, eOr, eNot, eIf, eL, lDisp, lList, lRep, oNone, oSome, eSl, iSeq, iRng1, iRng2, iZipD, iEnumD, iRevD, lListRange, lLc, eSorted, eSortSet, eLenSet, eBor, tBor, tYesD, noE, toB, dCmp, dSub, dNeg, dInt, dLen, dIs, dIsNot, List.map_cons, List.map_nil, List.length_cons, List.length_nil, Nat.reduceAdd, Nat.reduceSub, Nat.reduceLeDiff, List.replicate, List.cons_append, List.nil_append, List.append_nil, List.getElem?_cons_zero, List.getElem?_cons_succ, List.set_cons_zero, List.set_cons_succ, if_true, if_false, reduceIte, Bool.not_true, Bool.not_false, Bool.false_eq_true, reduceCtorEq]
  rw [if_pos ⟨hl, rfl⟩]
  rw [eachR_map (f := fun x => .bool (amongB (-1) 1 x))]
  intro x h
  unfold lcStep
  simp only [dIx_t0, dIx_t1, dIx_l0, dIx_l1, toItems, itemsOf, runF, runL, startE, endF, endL, R.bind_ok, R.bind_exc, R.bind_stuck, gSeq, gIf, gSet, gOwn, gRet, gRetL, gRetO, gDrop, gTgt, gT, gsC, gsN, gN, gFor, gApp, gExt, gFrz, gNil, gExc, eVar, eC, e1, e2, eA, aNil, aCons, eTup, eLst, eCall, lCall, listR, eChain, tV, tAndD, tOrD, tNotD, eAnd, eOr, eNot, eIf, eL, lDisp, lList, lRep, oNone, oSome, eSl, iSeq, iRng1, iRng2, iZipD, iEnumD, iRevD, lListRange, lLc, eSorted, eSortSet, eLenSet, eBor, tBor, tYesD, noE, toB, dCmp, dSub, dNeg, dInt, dLen, dIs, dIsNot, List.map_cons, List.map_nil, List.length_cons, List.length_nil, Nat.reduceAdd, Nat.reduceSub, Nat.reduceLeDiff, List.replicate, List.cons_append, List.nil_append, List.append_nil, List.getElem?_cons_zero, List.getElem?_cons_succ, List.set_cons_zero, List.set_cons_succ, if_true, if_false, reduceIte, Bool.not_true, Bool.not_false, Bool.false_eq_true, reduceCtorEq, wipeE, Int.reduceNeg, F_is_among_eq x (hx x h)]
/-- what may be asked about -/
def askD (t : D) : Prop := tyD t ≠ none ∧ ∀ xs, t = .tuple xs → (∀ x ∈ xs, tyD x ≠ none) ∧ xs.length ≤ 100000
theorem F_is_case_eq (m : Int) (t : D) (h : askD t) : F_is_case [.int m, t] = .ok (.bool (isCaseB m t)) := by
  unfold F_is_case g_is_case
  simp only [dIx_t0, dIx_t1, dIx_l0, dIx_l1, toItems, itemsOf, runF, runL, startE, endF, endL, R.bind_ok, R.bind_exc, R.bind_stuck, gSeq, gIf, gSet, gOwn, gRet, gRetL, gRetO, gDrop, gTgt, gT, gsC, gsN, gN, gFor, gApp, gExt, gFrz, gNil, gExc, eVar, eC, e1, e2, eA, aNil, aCons, eTup, eLst, eCall, lCall, listR, eChain, tV, tAndD, tOrD, tNotD, eAnd, eOr, eNot, eIf, eL, lDisp, lList, lRep, oNone, oSome, eSl, iSeq, iRng1, iRng2, iZipD, iEnumD, iRevD, lListRange, lLc, eSorted, eSortSet, eLenSet, eBor, tBor, tYesD, noE, toB, dCmp, dSub, dNeg, dInt, dLen, dIs, dIsNot, List.map_cons, List.map_nil, List.length_cons, List.length_nil, Nat.reduceAdd, Nat.reduceSub, Nat.reduceLeDiff, List.replicate, List.cons_append, List.nil_append, List.append_nil, List.getElem?_cons_zero, List.getElem?_cons_succ, List.set_cons_zero, List.set_cons_succ, if_true, if_false, reduceIte, Bool.not_true, Bool.not_false, Bool.false_eq_true, reduceCtorEq, isi_tuple t h.1]
  cases t
  case tuple xs =>
    obtain ⟨hx, hl⟩ := h.2 xs rfl
    simp only [dIx_t0, dIx_t1, dIx_l0, dIx_l1, toItems, itemsOf, runF, runL, startE, endF, endL, R.bind_ok, R.bind_exc, R.bind_stuck, gSeq, gIf, gSet, gOwn, gRet, gRetL, gRetO, gDrop, gTgt, gT, gsC, gsN, gN, gFor, gApp, gExt, gFrz, gNil, gExc, eVar, eC, e1, e2, eA, aNil, aCons, eTup, eLst, eCall, lCall, listR, eChain, tV, tAndD, tOrD, tNotD, eAnd, eOr, eNot, eIf, eL, lDisp, lList, lRep, oNone, oSome, eSl, iSeq, iRng1, iRng2, iZipD, iEnumD, iRevD, lListRange, lLc, eSorted, eSortSet, eLenSet, eBor, tBor, tYesD, noE, toB, dCmp, dSub, dNeg, dInt, dLen, dIs, dIsNot, List.map_cons, List.map_nil, List.length_cons, List.length_nil, Nat.reduceAdd, Nat.reduceSub, Nat.reduceLeDiff, List.replicate, List.cons_append, List.nil_append, List.append_nil, List.getElem?_cons_zero, List.getElem?_cons_succ, List.set_cons_zero, List.set_cons_succ, if_true, if_false, reduceIte, Bool.not_true, Bool.not_false, Bool.false_eq_true, reduceCtorEq, dNe_int]
    by_cases hm : (xs.length : Int) = m
    · simp only [dIx_t0, dIx_t1, dIx_l0, dIx_l1, toItems, itemsOf, runF, runL, startE, endF, endL, R.bind_ok, R.bind_exc, R.bind_stuck, gSeq, gIf, gSet, gOwn, gRet, gRetL, gRetO, gDrop, gTgt, gT, gsC, gsN, gN, gFor, gApp, gExt, gFrz, gNil, gExc, eVar, eC, e1, e2, eA, aNil, aCons, eTup, eLst, eCall, lCall, listR, eChain, tV, tAndD, tOrD, tNotD, eAnd, eOr, eNot, eIf, eL, lDisp, lList, lRep, oNone, oSome, eSl, iSeq, iRng1, iRng2, iZipD, iEnumD, iRevD, lListRange, lLc, eSorted, eSortSet, eLenSet, eBor, tBor, tYesD, noE, toB, dCmp, dSub, dNeg, dInt, dLen, dIs, dIsNot, List.map_cons, List.map_nil, List.length_cons, List.length_nil, Nat.reduceAdd, Nat.reduceSub, Nat.reduceLeDiff, List.replicate, List.cons_append, List.nil_append, List.append_nil, List.getElem?_cons_zero, List.getElem?_cons_succ, List.set_cons_zero, List.set_cons_succ, if_true, if_false, reduceIte, Bool.not_true, Bool.not_false, Bool.false_eq_true, reduceCtorEq, decide_eq_true hm, c_case m xs hx hl, map_bool_all, isCaseB, Bool.true_and]
    · simp only [dIx_t0, dIx_t1, dIx_l0, dIx_l1, toItems, itemsOf, runF, runL, startE, endF, endL, R.bind_ok, R.bind_exc, R.bind_stuck, gSeq, gIf, gSet, gOwn, gRet, gRetL, gRetO, gDrop, gTgt, gT, gsC, gsN, gN, gFor, gApp, gExt, gFrz, gNil, gExc, eVar, eC, e1, e2, eA, aNil, aCons, eTup, eLst, eCall, lCall, listR, eChain, tV, tAndD, tOrD, tNotD, eAnd, eOr, eNot, eIf, eL, lDisp, lList, lRep, oNone, oSome, eSl, iSeq, iRng1, iRng2, iZipD, iEnumD, iRevD, lListRange, lLc, eSorted, eSortSet, eLenSet, eBor, tBor, tYesD, noE, toB, dCmp, dSub, dNeg, dInt, dLen, dIs, dIsNot, List.map_cons, List.map_nil, List.length_cons, List.length_nil, Nat.reduceAdd, Nat.reduceSub, Nat.reduceLeDiff, List.replicate, List.cons_append, List.nil_append, List.append_nil, List.getElem?_cons_zero, List.getElem?_cons_succ, List.set_cons_zero, List.set_cons_succ, if_true, if_false, reduceIte, Bool.not_true, Bool.not_false, Bool.false_eq_true, reduceCtorEq, decide_eq_false hm, isCaseB, Bool.false_and]
  all_goals simp only [dIx_t0, dIx_t1, dIx_l0, dIx_l1, toItems, itemsOf, runF, runL, startE, endF, endL, R.bind_ok, R.bind_exc, R.bind_stuck, gSeq, gIf, gSet, gOwn, gRet, gRetL, gRetO, gDrop, gTgt, gT, gsC, gsN, gN, gFor, gApp, gExt, gFrz, gNil, gExc, eVar, eC, e1, e2, eA, aNil, aCons, eTup, eLst, eCall, lCall, listR, eChain, tV, tAndD, tOrD, tNotD, eAnd, eOr, eNot, eIf, eL, lDisp, lList, lRep, oNone, oSome, eSl, iSeq, iRng1, iRng2, iZipD, iEnumD, iRevD, lListRange, lLc, eSorted, eSortSet, eLenSet, eBor, tBor, tYesD, noE, toB, dCmp, dSub, dNeg, dInt, dLen, dIs, dIsNot, List.map_cons, List.map_nil, List.length_cons, List.length_nil, Nat.reduceAdd, Nat.reduceSub, Nat.reduceLeDiff, List.replicate, List.cons_append, List.nil_append, List.append_nil, List.getElem?_cons_zero, List.getElem?_cons_succ, List.set_cons_zero, List.set_cons_succ, if_true, if_false, reduceIte, Bool.not_true, Bool.not_false, Bool.false_eq_true, reduceCtorEq, isCaseB]
theorem isCaseB_sh {m : Int} {t : D} (h : isCaseB m t = true) : sh 1 t ∧ exact t = true := by
  cases t with
  | tuple xs =>
    simp only [isCaseB, Bool.and_eq_true] at h
    obtain ⟨ns, rfl, _⟩ := all_among h.2
    exact ⟨sh_tuple (sh_ints _), by simpa [exact] using exact_ints ns⟩
  | _ => simp [isCaseB] at h
def goodFrom (m : Int) : List D → List D → Bool
  | _, [] => true
  | pre, x :: r => isCaseB m x && !(pre.any fun z => PyData.eqv z x) && goodFrom m (pre ++ [x]) r
theorem cutD_take (xs : List D) (k : Nat) (h : k ≤ xs.length) : cutD xs none (some (k : Int)) = xs.take k := by
  unfold cutD
  rw [HT.sIx_none, HT.sIx_nat, Nat.min_eq_left h]
  rfl
theorem cases_step (m : Int) (full : List D) (k : Nat) (z : D) (hz : askD z) (hk : k ≤ full.length) (hp : ∀ x ∈ full.take k, isCaseB m x = true) :
    g_need_cases_L1 [.val (.int m), .val (.list full), .val (.int k), .val z] =
      if (isCaseB m z && !((full.take k).any fun y => PyData.eqv y z)) = true then .ok (.nx, [.val (.int m), .val (.list full), .val (.int k), .val z]) else .exc 2 := by
  unfold g_need_cases_L1
  simp only [dIx_t0, dIx_t1, dIx_l0, dIx_l1, toItems, itemsOf, runF, runL, startE, endF, endL, R.bind_ok, R.bind_exc, R.bind_stuck, gSeq, gIf, gSet, gOwn, gRet, gRetL, gRetO, gDrop, gTgt, gT, gsC, gsN, gN, gFor, gApp, gExt, gFrz, gNil, gExc, eVar, eC, e1, e2, eA, aNil, aCons, eTup, eLst, eCall, lCall, listR, eChain, tV, tAndD, tOrD, tNotD, eAnd, eOr, eNot, eIf, eL, lDisp, lList, lRep, oNone, oSome, eSl, iSeq, iRng1, iRng2, iZipD, iEnumD, iRevD, lListRange, lLc, eSorted, eSortSet, eLenSet, eBor, tBor, tYesD, noE, toB, dCmp, dSub, dNeg, dInt, dLen, dIs, dIsNot, List.map_cons, List.map_nil, List.length_cons, List.length_nil, Nat.reduceAdd, Nat.reduceSub, Nat.reduceLeDiff, List.replicate, List.cons_append, List.nil_append, List.append_nil, List.getElem?_cons_zero, List.getElem?_cons_succ, List.set_cons_zero, List.set_cons_succ, if_true, if_false, reduceIte, Bool.not_true, Bool.not_false, Bool.false_eq_true, reduceCtorEq, F_is_case_eq m z hz, dSl, cutD_take full k hk, dIn]
  cases h1 : isCaseB m z
  · simp only [dIx_t0, dIx_t1, dIx_l0, dIx_l1, toItems, itemsOf, runF, runL, startE, endF, endL, R.bind_ok, R.bind_exc, R.bind_stuck, gSeq, gIf, gSet, gOwn, gRet, gRetL, gRetO, gDrop, gTgt, gT, gsC, gsN, gN, gFor, gApp, gExt, gFrz, gNil, gExc, eVar, eC, e1, e2, eA, aNil, aCons, eTup, eLst, eCall, lCall, listR, eChain, tV, tAndD, tOrD, tNotD, eAnd, eOr, eNot, eIf, eL, lDisp, lList, lRep, oNone, oSome, eSl, iSeq, iRng1, iRng2, iZipD, iEnumD, iRevD, lListRange, lLc, eSorted, eSortSet, eLenSet, eBor, tBor, tYesD, noE, toB, dCmp, dSub, dNeg, dInt, dLen, dIs, dIsNot, List.map_cons, List.map_nil, List.length_cons, List.length_nil, Nat.reduceAdd, Nat.reduceSub, Nat.reduceLeDiff, List.replicate, List.cons_append, List.nil_append, List.append_nil, List.getElem?_cons_zero, List.getElem?_cons_succ, List.set_cons_zero, List.set_cons_succ, if_true, if_false, reduceIte, Bool.not_true, Bool.not_false, Bool.false_eq_true, reduceCtorEq, Bool.false_and]
  · have s1 : SeqAt.shaped z = true := shaped_sh (isCaseB_sh h1).1
    have s2 : SeqAt.shaped (.list (full.take k)) = true := shaped_sh (sh_list fun x hx => (isCaseB_sh (hp x hx)).1)
    simp only [dIx_t0, dIx_t1, dIx_l0, dIx_l1, toItems, itemsOf, runF, runL, startE, endF, endL, R.bind_ok, R.bind_exc, R.bind_stuck, gSeq, gIf, gSet, gOwn, gRet, gRetL, gRetO, gDrop, gTgt, gT, gsC, gsN, gN, gFor, gApp, gExt, gFrz, gNil, gExc, eVar, eC, e1, e2, eA, aNil, aCons, eTup, eLst, eCall, lCall, listR, eChain, tV, tAndD, tOrD, tNotD, eAnd, eOr, eNot, eIf, eL, lDisp, lList, lRep, oNone, oSome, eSl, iSeq, iRng1, iRng2, iZipD, iEnumD, iRevD, lListRange, lLc, eSorted, eSortSet, eLenSet, eBor, tBor, tYesD, noE, toB, dCmp, dSub, dNeg, dInt, dLen, dIs, dIsNot, List.map_cons, List.map_nil, List.length_cons, List.length_nil, Nat.reduceAdd, Nat.reduceSub, Nat.reduceLeDiff, List.replicate, List.cons_append, List.nil_append, List.append_nil, List.getElem?_cons_zero, List.getElem?_cons_succ, List.set_cons_zero, List.set_cons_succ, if_true, if_false, reduceIte, Bool.not_true, Bool.not_false, Bool.false_eq_true, reduceCtorEq, s1, s2, Bool.and_self, Bool.true_and]
    cases (full.take k).any fun y => PyData.eqv y z <;> simp only [dIx_t0, dIx_t1, dIx_l0, dIx_l1, toItems, itemsOf, runF, runL, startE, endF, endL, R.bind_ok, R.bind_exc, R.bind_stuck, gSeq, gIf, gSet, gOwn, gRet, gRetL, gRetO, gDrop, gTgt, gT, gsC, gsN, gN, gFor, gApp, gExt, gFrz, gNil, gExc, eVar, eC, e1, e2, eA, aNil, aCons, eTup, eLst, eCall, lCall, listR, eChain, tV, tAndD, tOrD, tNotD, eAnd, eOr, eNot, eIf, eL, lDisp, lList, lRep, oNone, oSome, eSl, iSeq, iRng1, iRng2, iZipD, iEnumD, iRevD, lListRange, lLc, eSorted, eSortSet, eLenSet, eBor, tBor, tYesD, noE, toB, dCmp, dSub, dNeg, dInt, dLen, dIs, dIsNot, List.map_cons, List.map_nil, List.length_cons, List.length_nil, Nat.reduceAdd, Nat.reduceSub, Nat.reduceLeDiff, List.replicate, List.cons_append, List.nil_append, List.append_nil, List.getElem?_cons_zero, List.getElem?_cons_succ, List.set_cons_zero, List.set_cons_succ, if_true, if_false, reduceIte, Bool.not_true, Bool.not_false, Bool.false_eq_true, reduceCtorEq]
theorem cases_loop (m : Int) (full : List D) : ∀ (suf : List D) (k : Nat) (s2 s3 : PL.Slot noObj), full.drop k = suf → k ≤ full.length → (∀ x ∈ suf, askD x) → (∀ x ∈ full.take k, isCaseB m x = true) →
    ∃ s2' s3', loopF (gT 2 (gsC (gN 2) (gsC (gN 3) gsN))) g_need_cases_L1 (enumFrom k suf) [.val (.int m), .val (.list full), s2, s3] =
      if goodFrom m (full.take k) suf = true then .ok (.nx, [.val (.int m), .val (.list full), s2', s3']) else .exc 2
  | [], k, s2, s3, _, _, _, _ => ⟨s2, s3, by simp only [dIx_t0, dIx_t1, dIx_l0, dIx_l1, toItems, itemsOf, runF, runL, startE, endF, endL, R.bind_ok, R.bind_exc, R.bind_stuck, gSeq, gIf, gSet, gOwn, gRet, gRetL, gRetO, gDrop, gTgt, gT, gsC, gsN, gN, gFor, gApp, gExt, gFrz, gNil, gExc, eVar, eC, e1, e2, eA, aNil, aCons, eTup, eLst, eCall, lCall, listR, eChain, tV, tAndD, tOrD, tNotD, eAnd, eOr, eNot, eIf, eL, lDisp, lList, lRep, oNone, oSome, eSl, iSeq, iRng1, iRng2, iZipD, iEnumD, iRevD, lListRange, lLc, eSorted, eSortSet, eLenSet, eBor, tBor, tYesD, noE, toB, dCmp, dSub, dNeg, dInt, dLen, dIs, dIsNot, List.map_cons, List.map_nil, List.length_cons, List.length_nil, Nat.reduceAdd, Nat.reduceSub, Nat.reduceLeDiff, List.replicate, List.cons_append, List.nil_append, List.append_nil, List.getElem?_cons_zero, List.getElem?_cons_succ, List.set_cons_zero, List.set_cons_succ, if_true, if_false, reduceIte, Bool.not_true, Bool.not_false, Bool.false_eq_true, reduceCtorEq, loopF, enumFrom, goodFrom]⟩
  | z :: suf, k, s2, s3, hf, hk, ha, hp => by
    have hlt : k < full.length := by
      by_cases h : k < full.length
      · exact h
      · rw [List.drop_eq_nil_of_le (by omega)] at hf; cases hf
    have hk' : full[k]? = some z := by
      have := congrArg (fun l : List D => l[0]?) hf
      simpa using this
    have hd : full.drop (k + 1) = suf := by
      have := congrArg (List.drop 1) hf
      simpa [List.drop_drop, Nat.add_comm] using this
    have ht : full.take (k + 1) = full.take k ++ [z] := by rw [List.take_add_one, hk']; rfl
    simp only [dIx_t0, dIx_t1, dIx_l0, dIx_l1, toItems, itemsOf, runF, runL, startE, endF, endL, R.bind_ok, R.bind_exc, R.bind_stuck, gSeq, gIf, gSet, gOwn, gRet, gRetL, gRetO, gDrop, gTgt, gT, gsC, gsN, gN, gFor, gApp, gExt, gFrz, gNil, gExc, eVar, eC, e1, e2, eA, aNil, aCons, eTup, eLst, eCall, lCall, listR, eChain, tV, tAndD, tOrD, tNotD, eAnd, eOr, eNot, eIf, eL, lDisp, lList, lRep, oNone, oSome, eSl, iSeq, iRng1, iRng2, iZipD, iEnumD, iRevD, lListRange, lLc, eSorted, eSortSet, eLenSet, eBor, tBor, tYesD, noE, toB, dCmp, dSub, dNeg, dInt, dLen, dIs, dIsNot, List.map_cons, List.map_nil, List.length_cons, List.length_nil, Nat.reduceAdd, Nat.reduceSub, Nat.reduceLeDiff, List.replicate, List.cons_append, List.nil_append, List.append_nil, List.getElem?_cons_zero, List.getElem?_cons_succ, List.set_cons_zero, List.set_cons_succ, if_true, if_false, reduceIte, Bool.not_true, Bool.not_false, Bool.false_eq_true, reduceCtorEq, loopF, enumFrom, cases_step m full k z (ha z (List.mem_cons_self ..)) hk hp, goodFrom]
    by_cases hc : (isCaseB m z && !((full.take k).any fun y => PyData.eqv y z)) = true
    · simp only [hc]
      simp only [dIx_t0, dIx_t1, dIx_l0, dIx_l1, toItems, itemsOf, runF, runL, startE, endF, endL, R.bind_ok, R.bind_exc, R.bind_stuck, gSeq, gIf, gSet, gOwn, gRet, gRetL, gRetO, gDrop, gTgt, gT, gsC, gsN, gN, gFor, gApp, gExt, gFrz, gNil, gExc, eVar, eC, e1, e2, eA, aNil, aCons, eTup, eLst, eCall, lCall, listR, eChain, tV, tAndD, tOrD, tNotD, eAnd, eOr, eNot, eIf, eL, lDisp, lList, lRep, oNone, oSome, eSl, iSeq, iRng1, iRng2, iZipD, iEnumD, iRevD, lListRange, lLc, eSorted, eSortSet, eLenSet, eBor, tBor, tYesD, noE, toB, dCmp, dSub, dNeg, dInt, dLen, dIs, dIsNot, List.map_cons, List.map_nil, List.length_cons, List.length_nil, Nat.reduceAdd, Nat.reduceSub, Nat.reduceLeDiff, List.replicate, List.cons_append, List.nil_append, List.append_nil, List.getElem?_cons_zero, List.getElem?_cons_succ, List.set_cons_zero, List.set_cons_succ, if_true, if_false, reduceIte, Bool.not_true, Bool.not_false, Bool.false_eq_true, reduceCtorEq, Bool.true_and]
      have h1 := (Bool.and_eq_true_iff.mp hc).1
      obtain ⟨a, b, e⟩ := cases_loop m full suf (k + 1) (.val (.int k)) (.val z) hd hlt (fun x hx => ha x (List.mem_cons_of_mem _ hx)) (fun x hx => by
        rw [ht] at hx
        rcases List.mem_append.mp hx with hx | hx
        · exact hp x hx
        · rw [List.mem_singleton] at hx; subst hx; exact h1)
      rw [ht] at e
      exact ⟨a, b, e⟩
    · rw [Bool.not_eq_true] at hc
      simp only [hc]
      simp only [dIx_t0, dIx_t1, dIx_l0, dIx_l1, toItems, itemsOf, runF, runL, startE, endF, endL, R.bind_ok, R.bind_exc, R.bind_stuck, gSeq, gIf, gSet, gOwn, gRet, gRetL, gRetO, gDrop, gTgt, gT, gsC, gsN, gN, gFor, gApp, gExt, gFrz, gNil, gExc, eVar, eC, e1, e2, eA, aNil, aCons, eTup, eLst, eCall, lCall, listR, eChain, tV, tAndD, tOrD, tNotD, eAnd, eOr, eNot, eIf, eL, lDisp, lList, lRep, oNone, oSome, eSl, iSeq, iRng1, iRng2, iZipD, iEnumD, iRevD, lListRange, lLc, eSorted, eSortSet, eLenSet, eBor, tBor, tYesD, noE, toB, dCmp, dSub, dNeg, dInt, dLen, dIs, dIsNot, List.map_cons, List.map_nil, List.length_cons, List.length_nil, Nat.reduceAdd, Nat.reduceSub, Nat.reduceLeDiff, List.replicate, List.cons_append, List.nil_append, List.append_nil, List.getElem?_cons_zero, List.getElem?_cons_succ, List.set_cons_zero, List.set_cons_succ, if_true, if_false, reduceIte, Bool.not_true, Bool.not_false, Bool.false_eq_true, reduceCtorEq, Bool.false_and]
      exact ⟨s2, s3, trivial⟩
def goodCases (m : Int) : D → Bool
  | .list xs => decide (1 ≤ xs.length ∧ xs.length ≤ 12) && goodFrom m [] xs
  | _ => false
theorem F_need_cases_many (t c : D) (h : tyD t ≠ none) (h2 : amongB 2 5 t = false) : F_need_cases [t, c] = .exc 1 := by
  unfold F_need_cases g_need_cases
  simp only [dIx_t0, dIx_t1, dIx_l0, dIx_l1, toItems, itemsOf, runF, runL, startE, endF, endL, R.bind_ok, R.bind_exc, R.bind_stuck, gSeq, gIf, gSet, gOwn, gRet, gRetL, gRetO, gDrop, gTgt, gT, gsC, gsN, gN, gFor, gApp, gExt, gFrz, gNil, gExc, eVar, eC, e1, e2, eA, aNil, aCons, eTup, eLst, eCall, lCall, listR, eChain, tV, tAndD, tOrD, tNotD, eAnd, eOr, eNot, eIf, eL, lDisp, lList, lRep, oNone, oSome, eSl, iSeq, iRng1, iRng2, iZipD, iEnumD, iRevD, lListRange, lLc, eSorted, eSortSet, eLenSet, eBor, tBor, tYesD, noE, toB, dCmp, dSub, dNeg, dInt, dLen, dIs, dIsNot, List.map_cons, List.map_nil, List.length_cons, List.length_nil, Nat.reduceAdd, Nat.reduceSub, Nat.reduceLeDiff, List.replicate, List.cons_append, List.nil_append, List.append_nil, List.getElem?_cons_zero, List.getElem?_cons_succ, List.set_cons_zero, List.set_cons_succ, if_true, if_false, reduceIte, Bool.not_true, Bool.not_false, Bool.false_eq_true, reduceCtorEq, F_need_many_eq t h, h2]
theorem F_need_cases_eq (m : Int) (c : D) (hm : amongB 2 5 (.int m) = true) (hc : tyD c ≠ none) (ha : ∀ xs, c = .list xs → xs.length ≤ 12 → ∀ x ∈ xs, askD x) :
    F_need_cases [.int m, c] = if goodCases m c = true then .ok .none else .exc 2 := by
  unfold F_need_cases g_need_cases
  simp only [dIx_t0, dIx_t1, dIx_l0, dIx_l1, toItems, itemsOf, runF, runL, startE, endF, endL, R.bind_ok, R.bind_exc, R.bind_stuck, gSeq, gIf, gSet, gOwn, gRet, gRetL, gRetO, gDrop, gTgt, gT, gsC, gsN, gN, gFor, gApp, gExt, gFrz, gNil, gExc, eVar, eC, e1, e2, eA, aNil, aCons, eTup, eLst, eCall, lCall, listR, eChain, tV, tAndD, tOrD, tNotD, eAnd, eOr, eNot, eIf, eL, lDisp, lList, lRep, oNone, oSome, eSl, iSeq, iRng1, iRng2, iZipD, iEnumD, iRevD, lListRange, lLc, eSorted, eSortSet, eLenSet, eBor, tBor, tYesD, noE, toB, dCmp, dSub, dNeg, dInt, dLen, dIs, dIsNot, List.map_cons, List.map_nil, List.length_cons, List.length_nil, Nat.reduceAdd, Nat.reduceSub, Nat.reduceLeDiff, List.replicate, List.cons_append, List.nil_append, List.append_nil, List.getElem?_cons_zero, List.getElem?_cons_succ, List.set_cons_zero, List.set_cons_succ, if_true, if_false, reduceIte, Bool.not_true, Bool.not_false, Bool.false_eq_true, reduceCtorEq, F_need_many_eq (.int m) (by simp [tyD]), hm, isi_list c hc]
  cases c
  case list xs =>
    simp only [dIx_t0, dIx_t1, dIx_l0, dIx_l1, toItems, itemsOf, runF, runL, startE, endF, endL, R.bind_ok, R.bind_exc, R.bind_stuck, gSeq, gIf, gSet, gOwn, gRet, gRetL, gRetO, gDrop, gTgt, gT, gsC, gsN, gN, gFor, gApp, gExt, gFrz, gNil, gExc, eVar, eC, e1, e2, eA, aNil, aCons, eTup, eLst, eCall, lCall, listR, eChain, tV, tAndD, tOrD, tNotD, eAnd, eOr, eNot, eIf, eL, lDisp, lList, lRep, oNone, oSome, eSl, iSeq, iRng1, iRng2, iZipD, iEnumD, iRevD, lListRange, lLc, eSorted, eSortSet, eLenSet, eBor, tBor, tYesD, noE, toB, dCmp, dSub, dNeg, dInt, dLen, dIs, dIsNot, List.map_cons, List.map_nil, List.length_cons, List.length_nil, Nat.reduceAdd, Nat.reduceSub, Nat.reduceLeDiff, List.replicate, List.cons_append, List.nil_append, List.append_nil, List.getElem?_cons_zero, List.getElem?_cons_succ, List.set_cons_zero, List.set_cons_succ, if_true, if_false, reduceIte, Bool.not_true, Bool.not_false, Bool.false_eq_true, reduceCtorEq]
    by_cases h1 : (1 : Int) ≤ xs.length
    · by_cases h2 : (xs.length : Int) ≤ 12
      · have h3 : (1 ≤ xs.length ∧ xs.length ≤ 12) := by omega
        obtain ⟨a, b, e⟩ := cases_loop m xs xs 0 .no .no rfl (Nat.zero_le _) (ha xs rfl h3.2) (by simp)
        simp only [dIx_t0, dIx_t1, dIx_l0, dIx_l1, toItems, itemsOf, runF, runL, startE, endF, endL, R.bind_ok, R.bind_exc, R.bind_stuck, gSeq, gIf, gSet, gOwn, gRet, gRetL, gRetO, gDrop, gTgt, gT, gsC, gsN, gN, gFor, gApp, gExt, gFrz, gNil, gExc, eVar, eC, e1, e2, eA, aNil, aCons, eTup, eLst, eCall, lCall, listR, eChain, tV, tAndD, tOrD, tNotD, eAnd, eOr, eNot, eIf, eL, lDisp, lList, lRep, oNone, oSome, eSl, iSeq, iRng1, iRng2, iZipD, iEnumD, iRevD, lListRange, lLc, eSorted, eSortSet, eLenSet, eBor, tBor, tYesD, noE, toB, dCmp, dSub, dNeg, dInt, dLen, dIs, dIsNot, List.map_cons, List.map_nil, List.length_cons, List.length_nil, Nat.reduceAdd, Nat.reduceSub, Nat.reduceLeDiff, List.replicate, List.cons_append, List.nil_append, List.append_nil, List.getElem?_cons_zero, List.getElem?_cons_succ, List.set_cons_zero, List.set_cons_succ, if_true, if_false, reduceIte, Bool.not_true, Bool.not_false, Bool.false_eq_true, reduceCtorEq, decide_eq_true h1, decide_eq_true h2, goodCases, decide_eq_true h3, Bool.true_and, e]
        rw [List.take_zero]
        cases goodFrom m [] xs <;> simp only [dIx_t0, dIx_t1, dIx_l0, dIx_l1, toItems, itemsOf, runF, runL, startE, endF, endL, R.bind_ok, R.bind_exc, R.bind_stuck, gSeq, gIf, gSet, gOwn, gRet, gRetL, gRetO, gDrop, gTgt, gT, gsC, gsN, gN, gFor, gApp, gExt, gFrz, gNil, gExc, eVar, eC, e1, e2, eA, aNil, aCons, eTup, eLst, eCall, lCall, listR, eChain, tV, tAndD, tOrD, tNotD, eAnd, eOr, eNot, eIf, eL, lDisp, lList, lRep, oNone, oSome, eSl, iSeq, iRng1, iRng2, iZipD, iEnumD, iRevD, lListRange, lLc, eSorted, eSortSet, eLenSet, eBor, tBor, tYesD, noE, toB, dCmp, dSub, dNeg, dInt, dLen, dIs, dIsNot, List.map_cons, List.map_nil, List.length_cons, List.length_nil, Nat.reduceAdd, Nat.reduceSub, Nat.reduceLeDiff, List.replicate, List.cons_append, List.nil_append, List.append_nil, List.getElem?_cons_zero, List.getElem?_cons_succ, List.set_cons_zero, List.set_cons_succ, if_true, if_false, reduceIte, Bool.not_true, Bool.not_false, Bool.false_eq_true, reduceCtorEq]
      · have h3 : ¬ (1 ≤ xs.length ∧ xs.length ≤ 12) := by omega
        simp only [dIx_t0, dIx_t1, dIx_l0, dIx_l1, toItems, itemsOf, runF, runL, startE, endF, endL, R.bind_ok, R.bind_exc, R.bind_stuck, gSeq, gIf, gSet, gOwn, gRet, gRetL, gRetO, gDrop, gTgt, gT, gsC, gsN, gN, gFor, gApp, gExt, gFrz, gNil, gExc, eVar, eC, e1, e2, eA, aNil, aCons, eTup, eLst, eCall, lCall, listR, eChain, tV, tAndD, tOrD, tNotD, eAnd, eOr, eNot, eIf, eL, lDisp, lList, lRep, oNone, oSome, eSl, iSeq, iRng1, iRng2, iZipD, iEnumD, iRevD, lListRange, lLc, eSorted, eSortSet, eLenSet, eBor, tBor, tYesD, noE, toB, dCmp, dSub, dNeg, dInt, dLen, dIs, dIsNot, List.map_cons, List.map_nil, List.length_cons, List.length_nil, Nat.reduceAdd, Nat.reduceSub, Nat.reduceLeDiff, List.replicate, List.cons_append, List.nil_append, List.append_nil, List.getElem?_cons_zero, List.getElem?_cons_succ, List.set_cons_zero, List.set_cons_succ, if_true, if_false, reduceIte, Bool.not_true, Bool.not_false, Bool.false_eq_true, reduceCtorEq, decide_eq_true h1, decide_eq_false h2, goodCases, decide_eq_false h3, Bool.false_and]
    · have h3 : ¬ (1 ≤ xs.length ∧ xs.length ≤ 12) := by omega
      simp only [dIx_t0, dIx_t1, dIx_l0, dIx_l1, toItems, itemsOf, runF, runL, startE, endF, endL, R.bind_ok, R.bind_exc, R.bind_stuck, gSeq, gIf, gSet, gOwn, gRet, gRetL, gRetO, gDrop, gTgt, gT, gsC, gsN, gN, gFor, gApp, gExt, gFrz, gNil, gExc, eVar, eC, e1, e2, eA, aNil, aCons, eTup, eLst, eCall, lCall, listR, eChain, tV, tAndD, tOrD, tNotD, eAnd, eOr, eNot, eIf, eL, lDisp, lList, lRep, oNone, oSome, eSl, iSeq, iRng1, iRng2, iZipD, iEnumD, iRevD, lListRange, lLc, eSorted, eSortSet, eLenSet, eBor, tBor, tYesD, noE, toB, dCmp, dSub, dNeg, dInt, dLen, dIs, dIsNot, List.map_cons, List.map_nil, List.length_cons, List.length_nil, Nat.reduceAdd, Nat.reduceSub, Nat.reduceLeDiff, List.replicate, List.cons_append, List.nil_append, List.append_nil, List.getElem?_cons_zero, List.getElem?_cons_succ, List.set_cons_zero, List.set_cons_succ, if_true, if_false, reduceIte, Bool.not_true, Bool.not_false, Bool.false_eq_true, reduceCtorEq, decide_eq_false h1, goodCases, decide_eq_false h3, Bool.false_and]
  all_goals simp only [dIx_t0, dIx_t1, dIx_l0, dIx_l1, toItems, itemsOf, runF, runL, startE, endF, endL, R.bind_ok, R.bind_exc, R.bind_stuck, gSeq, gIf, gSet, gOwn, gRet, gRetL, gRetO, gDrop, gTgt, gT, gsC, gsN, gN, gFor, gApp, gExt, gFrz, gNil, gExc, eVar, eC, e1, e2, eA, aNil, aCons, eTup, eLst, eCall, lCall, listR, eChain, tV, tAndD, tOrD, tNotD, eAnd, eOr, eNot, eIf, eL, lDisp, lList, lRep, oNone, oSome, eSl, iSeq, iRng1, iRng2, iZipD, iEnumD, iRevD, lListRange, lLc, eSorted, eSortSet, eLenSet, eBor, tBor, tYesD, noE, toB, dCmp, dSub, dNeg, dInt, dLen, dIs, dIsNot, List.map_cons, List.map_nil, List.length_cons, List.length_nil, Nat.reduceAdd, Nat.reduceSub, Nat.reduceLeDiff, List.replicate, List.cons_append, List.nil_append, List.append_nil, List.getElem?_cons_zero, List.getElem?_cons_succ, List.set_cons_zero, List.set_cons_succ, if_true, if_false, reduceIte, Bool.not_true, Bool.not_false, Bool.false_eq_true, reduceCtorEq, goodCases]
/-! ### typed cases -/
def encC (c : List Int) : D := .tuple (c.map PyData.int)
def CaseOk (m : Nat) (c : List Int) : Prop := c.length = m ∧ ∀ z ∈ c, -1 ≤ z ∧ z ≤ 1
theorem encC_inj {a b : List Int} (h : encC a = encC b) : a = b := map_int_inj.mp (PyData.tuple.inj h)
theorem encC_sh (c : List Int) : sh 1 (encC c) := sh_tuple (sh_ints _)
theorem encC_exact (c : List Int) : exact (encC c) = true := by simpa [encC, exact] using exact_ints c
theorem encC_eqv (a b : List Int) : PyData.eqv (encC a) (encC b) = decide (a = b) := by
  rw [Bool.eq_iff_iff, eqv_exact _ _ (encC_exact a) (encC_exact b), decide_eq_true_eq]
  exact ⟨encC_inj, fun h => by rw [h]⟩
theorem encC_ask (c : List Int) (h : c.length ≤ 100000) : askD (encC c) := ⟨by simp [encC, tyD], fun xs e => by
  cases e
  exact ⟨fun x hx => by obtain ⟨i, _, rfl⟩ := List.mem_map.mp hx; simp [tyD], by rw [List.length_map]; exact h⟩⟩
theorem isCaseB_enc {m : Nat} {c : List Int} (h : CaseOk m c) : isCaseB m (encC c) = true := by
  simp only [isCaseB, encC, List.length_map, h.1, decide_true, Bool.true_and, List.all_map, List.all_eq_true, Function.comp_def, amongB, Bool.and_eq_true, decide_eq_true_eq]
  exact h.2
theorem any_enc (cs : List (List Int)) (c : List Int) : ((cs.map encC).any fun z => PyData.eqv z (encC c)) = decide (c ∈ cs) := by
  rw [List.any_map, Bool.eq_iff_iff, decide_eq_true_eq, List.any_eq_true]
  constructor
  · rintro ⟨x, hx, e⟩
    simp only [Function.comp_def, encC_eqv, decide_eq_true_eq] at e
    exact e ▸ hx
  · intro h
    exact ⟨c, h, by simp only [Function.comp_def, encC_eqv, decide_true]⟩
theorem goodFrom_enc (m : Nat) : ∀ (suf pre : List (List Int)), (∀ c ∈ suf, CaseOk m c) → (pre ++ suf).Nodup → goodFrom m (pre.map encC) (suf.map encC) = true
  | [], _, _, _ => rfl
  | c :: suf, pre, hc, hn => by
    have h1 : c ∉ pre := fun hp => (List.nodup_append.mp hn).2.2 c hp c (List.mem_cons_self ..) rfl
    rw [List.map_cons, goodFrom, isCaseB_enc (hc c (List.mem_cons_self ..)), any_enc, decide_eq_false h1]
    have e : pre.map encC ++ [encC c] = (pre ++ [c]).map encC := by rw [List.map_append]; rfl
    rw [e, goodFrom_enc m suf (pre ++ [c]) (fun d hd => hc d (List.mem_cons_of_mem _ hd)) (by simpa using hn)]
    rfl
/-- such cases -/
structure CasesOk (m : Nat) (cs : List (List Int)) : Prop where
  ok : ∀ c ∈ cs, CaseOk m c
  nd : cs.Nodup
  pos : 1 ≤ cs.length
  le : cs.length ≤ 12
theorem goodCases_enc {m : Nat} {cs : List (List Int)} (h : CasesOk m cs) : goodCases m (.list (cs.map encC)) = true := by
  have h1 : (1 ≤ cs.length ∧ cs.length ≤ 12) := ⟨h.pos, h.le⟩
  simp only [goodCases, List.length_map, decide_eq_true h1, Bool.true_and]
  exact goodFrom_enc m cs [] h.ok (by simpa using h.nd)
theorem F_need_cases_ok {m : Nat} {cs : List (List Int)} (hm : 2 ≤ m ∧ m ≤ 5) (h : CasesOk m cs) : F_need_cases [.int m, .list (cs.map encC)] = .ok .none := by
  rw [F_need_cases_eq m _ (by simp only [amongB, Bool.and_eq_true, decide_eq_true_eq]; omega) (by simp [tyD]) fun xs e _ x hx => ?_, if_pos (goodCases_enc h)]
  cases e
  obtain ⟨c, hc, rfl⟩ := List.mem_map.mp hx
  exact encC_ask c (by rw [(h.ok c hc).1]; omega)
end W

set_option Elab.async false
set_option linter.all false
set_option maxRecDepth 100000
set_option maxHeartbeats 1000000
namespace W
open PySem PL
def scriptD (ns : List Int) : D := .dict [(.none, .list (ns.map PyData.int))]
def cellI (ns : List Int) (k : Int) : Int := if k < ns.length then ns.getD k.toNat 0 else 0
def mixI (ns : List Int) (k : Int) : Int := (cellI ns k + 7919 * k + 13) * 48271 % 2147483647 / 3
theorem cell_eq (ns : List Int) (k : Int) (h : 0 ≤ k) : F__law_cell_at [scriptD ns, .int k] = .ok (.int (cellI ns k)) := by
  unfold F__law_cell_at g__law_cell_at scriptD cellI
  by_cases hk : k < ns.length
  · have hl : k.toNat < ns.length := by omega
    simp only [dIx_pick, dMod, dDiv, dList, dTuple, dRev, dSl, Int.reduceLT, Int.reduceLE, Int.reduceEq, Int.reduceSub, Int.reduceAdd, and_self, true_and, and_true, and_false, false_and, Int.cast_ofNat_Int, decide_true, decide_false, Bool.true_and, Bool.false_and, Bool.and_true, Bool.and_false, dIx_t0, dIx_t1, dIx_l0, dIx_l1, toItems, itemsOf, runF, runL, startE, endF, endL, R.bind_ok, R.bind_exc, R.bind_stuck, gSeq, gIf, gSet, gOwn, gRet, gRetL, gRetO, gDrop, gTgt, gT, gsC, gsN, gN, gFor, gApp, gExt, gFrz, gNil, gExc, eVar, eC, e1, e2, eA, aNil, aCons, eTup, eLst, eCall, lCall, listR, eChain, tV, tAndD, tOrD, tNotD, eAnd, eOr, eNot, eIf, eL, lDisp, lList, lRep, oNone, oSome, eSl, iSeq, iRng1, iRng2, iZipD, iEnumD, iRevD, lListRange, lLc, eSorted, eSortSet, eLenSet, eBor, tBor, tYesD, noE, toB, dCmp, dSub, dNeg, dInt, dLen, dIs, dIsNot, List.map_cons, List.map_nil, List.length_cons, List.length_nil, Nat.reduceAdd, Nat.reduceSub, Nat.reduceLeDiff, List.replicate, List.cons_append, List.nil_append, List.append_nil, List.getElem?_cons_zero, List.getElem?_cons_succ, List.set_cons_zero, List.set_cons_succ, if_true, if_false, reduceIte, Bool.not_true, Bool.not_false, Bool.false_eq_true, reduceCtorEq, List.length_map, decide_eq_true hk, if_pos hk]
    rw [dIx_scr h (y := .int (ns.getD k.toNat 0)) (by rw [List.getElem?_map, List.getElem?_eq_getElem hl, List.getD_eq_getElem?_getD, List.getElem?_eq_getElem hl]; rfl)]
    simp only [dIx_pick, dMod, dDiv, dList, dTuple, dRev, dSl, Int.reduceLT, Int.reduceLE, Int.reduceEq, Int.reduceSub, Int.reduceAdd, and_self, true_and, and_true, and_false, false_and, Int.cast_ofNat_Int, decide_true, decide_false, Bool.true_and, Bool.false_and, Bool.and_true, Bool.and_false, dIx_t0, dIx_t1, dIx_l0, dIx_l1, toItems, itemsOf, runF, runL, startE, endF, endL, R.bind_ok, R.bind_exc, R.bind_stuck, gSeq, gIf, gSet, gOwn, gRet, gRetL, gRetO, gDrop, gTgt, gT, gsC, gsN, gN, gFor, gApp, gExt, gFrz, gNil, gExc, eVar, eC, e1, e2, eA, aNil, aCons, eTup, eLst, eCall, lCall, listR, eChain, tV, tAndD, tOrD, tNotD, eAnd, eOr, eNot, eIf, eL, lDisp, lList, lRep, oNone, oSome, eSl, iSeq, iRng1, iRng2, iZipD, iEnumD, iRevD, lListRange, lLc, eSorted, eSortSet, eLenSet, eBor, tBor, tYesD, noE, toB, dCmp, dSub, dNeg, dInt, dLen, dIs, dIsNot, List.map_cons, List.map_nil, List.length_cons, List.length_nil, Nat.reduceAdd, Nat.reduceSub, Nat.reduceLeDiff, List.replicate, List.cons_append, List.nil_append, List.append_nil, List.getElem?_cons_zero, List.getElem?_cons_succ, List.set_cons_zero, List.set_cons_succ, if_true, if_false, reduceIte, Bool.not_true, Bool.not_false, Bool.false_eq_true, reduceCtorEq]
  · simp only [dIx_pick, dMod, dDiv, dList, dTuple, dRev, dSl, Int.reduceLT, Int.reduceLE, Int.reduceEq, Int.reduceSub, Int.reduceAdd, and_self, true_and, and_true, and_false, false_and, Int.cast_ofNat_Int, decide_true, decide_false, Bool.true_and, Bool.false_and, Bool.and_true, Bool.and_false, dIx_t0, dIx_t1, dIx_l0, dIx_l1, toItems, itemsOf, runF, runL, startE, endF, endL, R.bind_ok, R.bind_exc, R.bind_stuck, gSeq, gIf, gSet, gOwn, gRet, gRetL, gRetO, gDrop, gTgt, gT, gsC, gsN, gN, gFor, gApp, gExt, gFrz, gNil, gExc, eVar, eC, e1, e2, eA, aNil, aCons, eTup, eLst, eCall, lCall, listR, eChain, tV, tAndD, tOrD, tNotD, eAnd, eOr, eNot, eIf, eL, lDisp, lList, lRep, oNone, oSome, eSl, iSeq, iRng1, iRng2, iZipD, iEnumD, iRevD, lListRange, lLc, eSorted, eSortSet, eLenSet, eBor, tBor, tYesD, noE, toB, dCmp, dSub, dNeg, dInt, dLen, dIs, dIsNot, List.map_cons, List.map_nil, List.length_cons, List.length_nil, Nat.reduceAdd, Nat.reduceSub, Nat.reduceLeDiff, List.replicate, List.cons_append, List.nil_append, List.append_nil, List.getElem?_cons_zero, List.getElem?_cons_succ, List.set_cons_zero, List.set_cons_succ, if_true, if_false, reduceIte, Bool.not_true, Bool.not_false, Bool.false_eq_true, reduceCtorEq, List.length_map, decide_eq_false hk, if_neg hk]
theorem mixed_eq (ns : List Int) (k : Int) (h : 0 ≤ k) : F__law_mixed [scriptD ns, .int k] = .ok (.int (mixI ns k)) := by
  have q1 : small64 7919 = true := by decide
  have q2 : small64 48271 = true := by decide
  unfold F__law_mixed g__law_mixed mixI
  simp only [dIx_pick, dMod, dDiv, dList, dTuple, dRev, dSl, Int.reduceLT, Int.reduceLE, Int.reduceEq, Int.reduceSub, Int.reduceAdd, and_self, true_and, and_true, and_false, false_and, Int.cast_ofNat_Int, decide_true, decide_false, Bool.true_and, Bool.false_and, Bool.and_true, Bool.and_false, dIx_t0, dIx_t1, dIx_l0, dIx_l1, toItems, itemsOf, runF, runL, startE, endF, endL, R.bind_ok, R.bind_exc, R.bind_stuck, gSeq, gIf, gSet, gOwn, gRet, gRetL, gRetO, gDrop, gTgt, gT, gsC, gsN, gN, gFor, gApp, gExt, gFrz, gNil, gExc, eVar, eC, e1, e2, eA, aNil, aCons, eTup, eLst, eCall, lCall, listR, eChain, tV, tAndD, tOrD, tNotD, eAnd, eOr, eNot, eIf, eL, lDisp, lList, lRep, oNone, oSome, eSl, iSeq, iRng1, iRng2, iZipD, iEnumD, iRevD, lListRange, lLc, eSorted, eSortSet, eLenSet, eBor, tBor, tYesD, noE, toB, dCmp, dSub, dNeg, dInt, dLen, dIs, dIsNot, List.map_cons, List.map_nil, List.length_cons, List.length_nil, Nat.reduceAdd, Nat.reduceSub, Nat.reduceLeDiff, List.replicate, List.cons_append, List.nil_append, List.append_nil, List.getElem?_cons_zero, List.getElem?_cons_succ, List.set_cons_zero, List.set_cons_succ, if_true, if_false, reduceIte, Bool.not_true, Bool.not_false, Bool.false_eq_true, reduceCtorEq, cell_eq ns k h, dMul, dAdd, q1, q2, Bool.true_or, Bool.or_true]
theorem mixI_nonneg (ns : List Int) (k : Int) : 0 ≤ mixI ns k := by
  unfold mixI
  omega
theorem mixI_lt (ns : List Int) (k : Int) : mixI ns k < 715827883 := by
  unfold mixI
  omega
theorem rd2 : rangeD 0 2 = [.int 0, .int 1] := rfl
theorem rd3 : rangeD 0 3 = [.int 0, .int 1, .int 2] := rfl
theorem rd4 : rangeD 0 4 = [.int 0, .int 1, .int 2, .int 3] := rfl
theorem rd5 : rangeD 0 5 = [.int 0, .int 1, .int 2, .int 3, .int 4] := rfl
theorem w0 : dIx (.list [.int 1, .int 3, .int 9, .int 27, .int 81]) (.int 0) = .ok (.int 1) := rfl
theorem w1 : dIx (.list [.int 1, .int 3, .int 9, .int 27, .int 81]) (.int 1) = .ok (.int 3) := rfl
theorem w2 : dIx (.list [.int 1, .int 3, .int 9, .int 27, .int 81]) (.int 2) = .ok (.int 9) := rfl
theorem w3 : dIx (.list [.int 1, .int 3, .int 9, .int 27, .int 81]) (.int 3) = .ok (.int 27) := rfl
theorem w4 : dIx (.list [.int 1, .int 3, .int 9, .int 27, .int 81]) (.int 4) = .ok (.int 81) := rfl
/-- how many things -/
def Many (m : Nat) : Prop := m = 2 ∨ m = 3 ∨ m = 4 ∨ m = 5

end W

set_option Elab.async false
set_option linter.all false
set_option maxRecDepth 100000
set_option maxHeartbeats 1000000
namespace W
open PySem PL
theorem rd_ints (j : Int) (h : 0 ≤ j) : ∃ ks : List Int, rangeD 0 j = ks.map PyData.int ∧ (∀ k ∈ ks, 0 ≤ k) ∧ (ks.length : Int) = j := by
  refine ⟨(List.range j.toNat).map fun i : Nat => (i : Int), ?_, fun k hk => ?_, ?_⟩
  · unfold rangeD
    rw [List.map_map, Int.sub_zero]
    refine List.map_congr_left fun i _ => ?_
    simp
  · obtain ⟨i, _, rfl⟩ := List.mem_map.mp hk
    omega
  · rw [List.length_map, List.length_range]
    omega
theorem noE_ok' {α : Type} (a : α) : noE (R.ok a) = .ok a := rfl
end W

set_option Elab.async false
set_option linter.all false
set_option maxRecDepth 100000
set_option maxHeartbeats 1000000
namespace W
open PySem PL
/-! ### came -/
def atc (c : List Int) (i : Int) : Int := c.getD i.toNat 0
def sumAt (c a : List Int) : Int := (a.map (atc c)).sum
def sgn (x : Int) : Int := if 0 < x then 1 else if x < 0 then -1 else 0
def cameI (a b c : List Int) : Int := sgn (sumAt c a - sumAt c b)
def fits (c a : List Int) : Prop := ∀ i ∈ a, 0 ≤ i ∧ i < c.length
theorem dIx_at {c : List Int} {i : Int} (h : 0 ≤ i ∧ i < c.length) : dIx (.tuple (c.map PyData.int)) (.int i) = .ok (.int (atc c i)) := by
  refine dIx_tup h.1 ?_
  have hl : i.toNat < c.length := by omega
  rw [List.getElem?_map, List.getElem?_eq_getElem hl]
  simp [atc, List.getD, List.getElem?_eq_getElem hl]
theorem c_came (w : D) (a c : List Int) (hf : fits c a) (hl : a.length ≤ 100000) (k : Nat) (s2 s3 s4 s5 : PL.Slot noObj) (items : PL.Env noObj → R (List D)) (hi : items [.val w, .val (.tuple (c.map PyData.int)), s2, s3, s4, s5] = .ok (a.map PyData.int)) (h5 : plainAt [.val w, .val (.tuple (c.map PyData.int)), s2, s3, s4, s5] 5 = true) :
    lLc items (gN 5) tYesD (e2 dIx (eVar 1) (eVar 5)) [5] [.val w, .val (.tuple (c.map PyData.int)), s2, s3, s4, s5] = .ok ((a.map (atc c)).map PyData.int) := by
  unfold lLc
  rw [hi, R.bind_ok, if_pos ⟨by rw [List.length_map]; exact hl, by simp [h5]⟩]
  rw [List.map_map]
  refine noE_of ?_
  have key : ∀ (l : List Int), fits c l → eachR (lcStep (gN 5) tYesD (e2 dIx (eVar 1) (eVar 5)) (wipeE [.val w, .val (.tuple (c.map PyData.int)), s2, s3, s4, s5] [5])) (l.map PyData.int) = .ok (l.map (PyData.int ∘ atc c)) := fun l => by
    induction l with
    | nil => intro _; rfl
    | cons i r ih =>
      intro hf
      rw [List.map_cons, eachR, ih fun j hj => hf j (List.mem_cons_of_mem _ hj)]
      unfold lcStep
      simp only [dIx_t0, dIx_t1, dIx_l0, dIx_l1, toItems, itemsOf, runF, runL, startE, endF, endL, R.bind_ok, R.bind_exc, R.bind_stuck, gSeq, gIf, gSet, gOwn, gRet, gRetL, gRetO, gDrop, gTgt, gT, gsC, gsN, gN, gFor, gApp, gExt, gFrz, gNil, gExc, eVar, eC, e1, e2, eA, aNil, aCons, eTup, eLst, eCall, lCall, listR, eChain, tV, tAndD, tOrD, tNotD, eAnd, eOr, eNot, eIf, eL, lDisp, lList, lRep, oNone, oSome, eSl, iSeq, iRng1, iRng2, iZipD, iEnumD, iRevD, lListRange, lLc, eSorted, eSortSet, eLenSet, eBor, tBor, tYesD, noE, toB, dCmp, dSub, dNeg, dInt, dLen, dIs, dIsNot, List.map_cons, List.map_nil, List.length_cons, List.length_nil, Nat.reduceAdd, Nat.reduceSub, Nat.reduceLeDiff, List.replicate, List.cons_append, List.nil_append, List.append_nil, List.getElem?_cons_zero, List.getElem?_cons_succ, List.set_cons_zero, List.set_cons_succ, if_true, if_false, reduceIte, Bool.not_true, Bool.not_false, Bool.false_eq_true, reduceCtorEq, wipeE, dIx_at (hf i (List.mem_cons_self ..))]
      rfl
  exact key a hf
theorem sgn_eq (x : Int) : (if decide (0 < x) = true then (1 : Int) else 0) - (if decide (x < 0) = true then (1 : Int) else 0) = sgn x := by
  unfold sgn
  by_cases h1 : 0 < x
  · have h2 : ¬ x < 0 := by omega
    simp [h1, h2]
  · by_cases h2 : x < 0 <;> simp [h1, h2]
theorem F_came_eq (a b c : List Int) (ha : fits c a) (hb : fits c b) (la : a.length ≤ 100000) (lb : b.length ≤ 100000) :
    F_came [.tuple [.tuple (a.map PyData.int), .tuple (b.map PyData.int)], .tuple (c.map PyData.int)] = .ok (.int (cameI a b c)) := by
  have k1 : ∀ (w t : D), c_came_1 [.val w, .val (.tuple (c.map PyData.int)), .val (.tuple (a.map PyData.int)), .val t, .no, .no] = .ok ((a.map (atc c)).map PyData.int) := fun w t =>
    c_came w a c ha la 0 _ _ _ _ _ (by simp only [dIx_t0, dIx_t1, dIx_l0, dIx_l1, toItems, itemsOf, runF, runL, startE, endF, endL, R.bind_ok, R.bind_exc, R.bind_stuck, gSeq, gIf, gSet, gOwn, gRet, gRetL, gRetO, gDrop, gTgt, gT, gsC, gsN, gN, gFor, gApp, gExt, gFrz, gNil, gExc, eVar, eC, e1, e2, eA, aNil, aCons, eTup, eLst, eCall, lCall, listR, eChain, tV, tAndD, tOrD, tNotD, eAnd, eOr, eNot, eIf, eL, lDisp, lList, lRep, oNone, oSome, eSl, iSeq, iRng1, iRng2, iZipD, iEnumD, iRevD, lListRange, lLc, eSorted, eSortSet, eLenSet, eBor, tBor, tYesD, noE, toB, dCmp, dSub, dNeg, dInt, dLen, dIs, dIsNot, List.map_cons, List.map_nil, List.length_cons, List.length_nil, Nat.reduceAdd, Nat.reduceSub, Nat.reduceLeDiff, List.replicate, List.cons_append, List.nil_append, List.append_nil, List.getElem?_cons_zero, List.getElem?_cons_succ, List.set_cons_zero, List.set_cons_succ, if_true, if_false, reduceIte, Bool.not_true, Bool.not_false, Bool.false_eq_true, reduceCtorEq]) rfl
  have k2 : ∀ (w t : D), c_came_2 [.val w, .val (.tuple (c.map PyData.int)), .val t, .val (.tuple (b.map PyData.int)), .no, .no] = .ok ((b.map (atc c)).map PyData.int) := fun w t =>
    c_came w b c hb lb 0 _ _ _ _ _ (by simp only [dIx_t0, dIx_t1, dIx_l0, dIx_l1, toItems, itemsOf, runF, runL, startE, endF, endL, R.bind_ok, R.bind_exc, R.bind_stuck, gSeq, gIf, gSet, gOwn, gRet, gRetL, gRetO, gDrop, gTgt, gT, gsC, gsN, gN, gFor, gApp, gExt, gFrz, gNil, gExc, eVar, eC, e1, e2, eA, aNil, aCons, eTup, eLst, eCall, lCall, listR, eChain, tV, tAndD, tOrD, tNotD, eAnd, eOr, eNot, eIf, eL, lDisp, lList, lRep, oNone, oSome, eSl, iSeq, iRng1, iRng2, iZipD, iEnumD, iRevD, lListRange, lLc, eSorted, eSortSet, eLenSet, eBor, tBor, tYesD, noE, toB, dCmp, dSub, dNeg, dInt, dLen, dIs, dIsNot, List.map_cons, List.map_nil, List.length_cons, List.length_nil, Nat.reduceAdd, Nat.reduceSub, Nat.reduceLeDiff, List.replicate, List.cons_append, List.nil_append, List.append_nil, List.getElem?_cons_zero, List.getElem?_cons_succ, List.set_cons_zero, List.set_cons_succ, if_true, if_false, reduceIte, Bool.not_true, Bool.not_false, Bool.false_eq_true, reduceCtorEq]) rfl
  unfold F_came g_came
  simp only [dIx_t0, dIx_t1, dIx_l0, dIx_l1, toItems, itemsOf, runF, runL, startE, endF, endL, R.bind_ok, R.bind_exc, R.bind_stuck, gSeq, gIf, gSet, gOwn, gRet, gRetL, gRetO, gDrop, gTgt, gT, gsC, gsN, gN, gFor, gApp, gExt, gFrz, gNil, gExc, eVar, eC, e1, e2, eA, aNil, aCons, eTup, eLst, eCall, lCall, listR, eChain, tV, tAndD, tOrD, tNotD, eAnd, eOr, eNot, eIf, eL, lDisp, lList, lRep, oNone, oSome, eSl, iSeq, iRng1, iRng2, iZipD, iEnumD, iRevD, lListRange, lLc, eSorted, eSortSet, eLenSet, eBor, tBor, tYesD, noE, toB, dCmp, dSub, dNeg, dInt, dLen, dIs, dIsNot, List.map_cons, List.map_nil, List.length_cons, List.length_nil, Nat.reduceAdd, Nat.reduceSub, Nat.reduceLeDiff, List.replicate, List.cons_append, List.nil_append, List.append_nil, List.getElem?_cons_zero, List.getElem?_cons_succ, List.set_cons_zero, List.set_cons_succ, if_true, if_false, reduceIte, Bool.not_true, Bool.not_false, Bool.false_eq_true, reduceCtorEq, k1, k2, dSum, intsOf_map]
  rw [sgn_eq]
  rfl
theorem step_L1 (w : D) (c : List Int) (x i : Int) (h : 0 ≤ i ∧ i < c.length) : g__law_came_L1 [.val w, .val (.tuple (c.map PyData.int)), .val (.int x), .val (.int i)] = .ok (.nx, [.val w, .val (.tuple (c.map PyData.int)), .val (.int (x + atc c i)), .val (.int i)]) := by
  unfold g__law_came_L1
  simp only [dIx_t0, dIx_t1, dIx_l0, dIx_l1, toItems, itemsOf, runF, runL, startE, endF, endL, R.bind_ok, R.bind_exc, R.bind_stuck, gSeq, gIf, gSet, gOwn, gRet, gRetL, gRetO, gDrop, gTgt, gT, gsC, gsN, gN, gFor, gApp, gExt, gFrz, gNil, gExc, eVar, eC, e1, e2, eA, aNil, aCons, eTup, eLst, eCall, lCall, listR, eChain, tV, tAndD, tOrD, tNotD, eAnd, eOr, eNot, eIf, eL, lDisp, lList, lRep, oNone, oSome, eSl, iSeq, iRng1, iRng2, iZipD, iEnumD, iRevD, lListRange, lLc, eSorted, eSortSet, eLenSet, eBor, tBor, tYesD, noE, toB, dCmp, dSub, dNeg, dInt, dLen, dIs, dIsNot, List.map_cons, List.map_nil, List.length_cons, List.length_nil, Nat.reduceAdd, Nat.reduceSub, Nat.reduceLeDiff, List.replicate, List.cons_append, List.nil_append, List.append_nil, List.getElem?_cons_zero, List.getElem?_cons_succ, List.set_cons_zero, List.set_cons_succ, if_true, if_false, reduceIte, Bool.not_true, Bool.not_false, Bool.false_eq_true, reduceCtorEq, dIx_at h, dAdd]
theorem step_L2 (w : D) (c : List Int) (x i : Int) (h : 0 ≤ i ∧ i < c.length) : g__law_came_L2 [.val w, .val (.tuple (c.map PyData.int)), .val (.int x), .val (.int i)] = .ok (.nx, [.val w, .val (.tuple (c.map PyData.int)), .val (.int (x - atc c i)), .val (.int i)]) := by
  unfold g__law_came_L2
  simp only [dIx_t0, dIx_t1, dIx_l0, dIx_l1, toItems, itemsOf, runF, runL, startE, endF, endL, R.bind_ok, R.bind_exc, R.bind_stuck, gSeq, gIf, gSet, gOwn, gRet, gRetL, gRetO, gDrop, gTgt, gT, gsC, gsN, gN, gFor, gApp, gExt, gFrz, gNil, gExc, eVar, eC, e1, e2, eA, aNil, aCons, eTup, eLst, eCall, lCall, listR, eChain, tV, tAndD, tOrD, tNotD, eAnd, eOr, eNot, eIf, eL, lDisp, lList, lRep, oNone, oSome, eSl, iSeq, iRng1, iRng2, iZipD, iEnumD, iRevD, lListRange, lLc, eSorted, eSortSet, eLenSet, eBor, tBor, tYesD, noE, toB, dCmp, dSub, dNeg, dInt, dLen, dIs, dIsNot, List.map_cons, List.map_nil, List.length_cons, List.length_nil, Nat.reduceAdd, Nat.reduceSub, Nat.reduceLeDiff, List.replicate, List.cons_append, List.nil_append, List.append_nil, List.getElem?_cons_zero, List.getElem?_cons_succ, List.set_cons_zero, List.set_cons_succ, if_true, if_false, reduceIte, Bool.not_true, Bool.not_false, Bool.false_eq_true, reduceCtorEq, dIx_at h]
theorem lawcame_L1 (w : D) (c : List Int) : ∀ (a : List Int) (x : Int) (s3 : PL.Slot noObj), fits c a → ∃ s3', loopF (gN 3) g__law_came_L1 (a.map PyData.int) [.val w, .val (.tuple (c.map PyData.int)), .val (.int x), s3] = .ok (.nx, [.val w, .val (.tuple (c.map PyData.int)), .val (.int (x + sumAt c a)), s3'])
  | [], x, s3, _ => ⟨s3, by simp only [dIx_t0, dIx_t1, dIx_l0, dIx_l1, toItems, itemsOf, runF, runL, startE, endF, endL, R.bind_ok, R.bind_exc, R.bind_stuck, gSeq, gIf, gSet, gOwn, gRet, gRetL, gRetO, gDrop, gTgt, gT, gsC, gsN, gN, gFor, gApp, gExt, gFrz, gNil, gExc, eVar, eC, e1, e2, eA, aNil, aCons, eTup, eLst, eCall, lCall, listR, eChain, tV, tAndD, tOrD, tNotD, eAnd, eOr, eNot, eIf, eL, lDisp, lList, lRep, oNone, oSome, eSl, iSeq, iRng1, iRng2, iZipD, iEnumD, iRevD, lListRange, lLc, eSorted, eSortSet, eLenSet, eBor, tBor, tYesD, noE, toB, dCmp, dSub, dNeg, dInt, dLen, dIs, dIsNot, List.map_cons, List.map_nil, List.length_cons, List.length_nil, Nat.reduceAdd, Nat.reduceSub, Nat.reduceLeDiff, List.replicate, List.cons_append, List.nil_append, List.append_nil, List.getElem?_cons_zero, List.getElem?_cons_succ, List.set_cons_zero, List.set_cons_succ, if_true, if_false, reduceIte, Bool.not_true, Bool.not_false, Bool.false_eq_true, reduceCtorEq, loopF, sumAt, List.sum_nil, Int.add_zero]⟩
  | i :: r, x, s3, hf => by
    obtain ⟨s3', e⟩ := lawcame_L1 w c r (x + atc c i) (.val (.int i)) fun j hj => hf j (List.mem_cons_of_mem _ hj)
    refine ⟨s3', ?_⟩
    simp only [dIx_t0, dIx_t1, dIx_l0, dIx_l1, toItems, itemsOf, runF, runL, startE, endF, endL, R.bind_ok, R.bind_exc, R.bind_stuck, gSeq, gIf, gSet, gOwn, gRet, gRetL, gRetO, gDrop, gTgt, gT, gsC, gsN, gN, gFor, gApp, gExt, gFrz, gNil, gExc, eVar, eC, e1, e2, eA, aNil, aCons, eTup, eLst, eCall, lCall, listR, eChain, tV, tAndD, tOrD, tNotD, eAnd, eOr, eNot, eIf, eL, lDisp, lList, lRep, oNone, oSome, eSl, iSeq, iRng1, iRng2, iZipD, iEnumD, iRevD, lListRange, lLc, eSorted, eSortSet, eLenSet, eBor, tBor, tYesD, noE, toB, dCmp, dSub, dNeg, dInt, dLen, dIs, dIsNot, List.map_cons, List.map_nil, List.length_cons, List.length_nil, Nat.reduceAdd, Nat.reduceSub, Nat.reduceLeDiff, List.replicate, List.cons_append, List.nil_append, List.append_nil, List.getElem?_cons_zero, List.getElem?_cons_succ, List.set_cons_zero, List.set_cons_succ, if_true, if_false, reduceIte, Bool.not_true, Bool.not_false, Bool.false_eq_true, reduceCtorEq, loopF, step_L1 w c x i (hf i (List.mem_cons_self ..)), e, sumAt, List.sum_cons, Int.add_assoc]
theorem lawcame_L2 (w : D) (c : List Int) : ∀ (a : List Int) (x : Int) (s3 : PL.Slot noObj), fits c a → ∃ s3', loopF (gN 3) g__law_came_L2 (a.map PyData.int) [.val w, .val (.tuple (c.map PyData.int)), .val (.int x), s3] = .ok (.nx, [.val w, .val (.tuple (c.map PyData.int)), .val (.int (x - sumAt c a)), s3'])
  | [], x, s3, _ => ⟨s3, by simp only [dIx_t0, dIx_t1, dIx_l0, dIx_l1, toItems, itemsOf, runF, runL, startE, endF, endL, R.bind_ok, R.bind_exc, R.bind_stuck, gSeq, gIf, gSet, gOwn, gRet, gRetL, gRetO, gDrop, gTgt, gT, gsC, gsN, gN, gFor, gApp, gExt, gFrz, gNil, gExc, eVar, eC, e1, e2, eA, aNil, aCons, eTup, eLst, eCall, lCall, listR, eChain, tV, tAndD, tOrD, tNotD, eAnd, eOr, eNot, eIf, eL, lDisp, lList, lRep, oNone, oSome, eSl, iSeq, iRng1, iRng2, iZipD, iEnumD, iRevD, lListRange, lLc, eSorted, eSortSet, eLenSet, eBor, tBor, tYesD, noE, toB, dCmp, dSub, dNeg, dInt, dLen, dIs, dIsNot, List.map_cons, List.map_nil, List.length_cons, List.length_nil, Nat.reduceAdd, Nat.reduceSub, Nat.reduceLeDiff, List.replicate, List.cons_append, List.nil_append, List.append_nil, List.getElem?_cons_zero, List.getElem?_cons_succ, List.set_cons_zero, List.set_cons_succ, if_true, if_false, reduceIte, Bool.not_true, Bool.not_false, Bool.false_eq_true, reduceCtorEq, loopF, sumAt, List.sum_nil, Int.sub_zero]⟩
  | i :: r, x, s3, hf => by
    obtain ⟨s3', e⟩ := lawcame_L2 w c r (x - atc c i) (.val (.int i)) fun j hj => hf j (List.mem_cons_of_mem _ hj)
    refine ⟨s3', ?_⟩
    simp only [dIx_t0, dIx_t1, dIx_l0, dIx_l1, toItems, itemsOf, runF, runL, startE, endF, endL, R.bind_ok, R.bind_exc, R.bind_stuck, gSeq, gIf, gSet, gOwn, gRet, gRetL, gRetO, gDrop, gTgt, gT, gsC, gsN, gN, gFor, gApp, gExt, gFrz, gNil, gExc, eVar, eC, e1, e2, eA, aNil, aCons, eTup, eLst, eCall, lCall, listR, eChain, tV, tAndD, tOrD, tNotD, eAnd, eOr, eNot, eIf, eL, lDisp, lList, lRep, oNone, oSome, eSl, iSeq, iRng1, iRng2, iZipD, iEnumD, iRevD, lListRange, lLc, eSorted, eSortSet, eLenSet, eBor, tBor, tYesD, noE, toB, dCmp, dSub, dNeg, dInt, dLen, dIs, dIsNot, List.map_cons, List.map_nil, List.length_cons, List.length_nil, Nat.reduceAdd, Nat.reduceSub, Nat.reduceLeDiff, List.replicate, List.cons_append, List.nil_append, List.append_nil, List.getElem?_cons_zero, List.getElem?_cons_succ, List.set_cons_zero, List.set_cons_succ, if_true, if_false, reduceIte, Bool.not_true, Bool.not_false, Bool.false_eq_true, reduceCtorEq, loopF, step_L2 w c x i (hf i (List.mem_cons_self ..)), e]
    simp only [sumAt, List.map_cons, List.sum_cons, show ∀ p q r : Int, p - q - r = p - (q + r) from by intros; omega]
theorem F__law_came_eq (a b c : List Int) (ha : fits c a) (hb : fits c b) :
    F__law_came [.tuple [.tuple (a.map PyData.int), .tuple (b.map PyData.int)], .tuple (c.map PyData.int)] = .ok (.int (cameI a b c)) := by
  unfold F__law_came g__law_came
  obtain ⟨s3, k1⟩ := lawcame_L1 (.tuple [.tuple (a.map PyData.int), .tuple (b.map PyData.int)]) c a 0 .no ha
  obtain ⟨s4, k2⟩ := lawcame_L2 (.tuple [.tuple (a.map PyData.int), .tuple (b.map PyData.int)]) c b (0 + sumAt c a) s3 hb
  simp only [dIx_t0, dIx_t1, dIx_l0, dIx_l1, toItems, itemsOf, runF, runL, startE, endF, endL, R.bind_ok, R.bind_exc, R.bind_stuck, gSeq, gIf, gSet, gOwn, gRet, gRetL, gRetO, gDrop, gTgt, gT, gsC, gsN, gN, gFor, gApp, gExt, gFrz, gNil, gExc, eVar, eC, e1, e2, eA, aNil, aCons, eTup, eLst, eCall, lCall, listR, eChain, tV, tAndD, tOrD, tNotD, eAnd, eOr, eNot, eIf, eL, lDisp, lList, lRep, oNone, oSome, eSl, iSeq, iRng1, iRng2, iZipD, iEnumD, iRevD, lListRange, lLc, eSorted, eSortSet, eLenSet, eBor, tBor, tYesD, noE, toB, dCmp, dSub, dNeg, dInt, dLen, dIs, dIsNot, List.map_cons, List.map_nil, List.length_cons, List.length_nil, Nat.reduceAdd, Nat.reduceSub, Nat.reduceLeDiff, List.replicate, List.cons_append, List.nil_append, List.append_nil, List.getElem?_cons_zero, List.getElem?_cons_succ, List.set_cons_zero, List.set_cons_succ, if_true, if_false, reduceIte, Bool.not_true, Bool.not_false, Bool.false_eq_true, reduceCtorEq, k1, k2]
  unfold cameI sgn
  rw [Int.zero_add]
  by_cases h1 : 0 < sumAt c a - sumAt c b
  · simp only [dIx_t0, dIx_t1, dIx_l0, dIx_l1, toItems, itemsOf, runF, runL, startE, endF, endL, R.bind_ok, R.bind_exc, R.bind_stuck, gSeq, gIf, gSet, gOwn, gRet, gRetL, gRetO, gDrop, gTgt, gT, gsC, gsN, gN, gFor, gApp, gExt, gFrz, gNil, gExc, eVar, eC, e1, e2, eA, aNil, aCons, eTup, eLst, eCall, lCall, listR, eChain, tV, tAndD, tOrD, tNotD, eAnd, eOr, eNot, eIf, eL, lDisp, lList, lRep, oNone, oSome, eSl, iSeq, iRng1, iRng2, iZipD, iEnumD, iRevD, lListRange, lLc, eSorted, eSortSet, eLenSet, eBor, tBor, tYesD, noE, toB, dCmp, dSub, dNeg, dInt, dLen, dIs, dIsNot, List.map_cons, List.map_nil, List.length_cons, List.length_nil, Nat.reduceAdd, Nat.reduceSub, Nat.reduceLeDiff, List.replicate, List.cons_append, List.nil_append, List.append_nil, List.getElem?_cons_zero, List.getElem?_cons_succ, List.set_cons_zero, List.set_cons_succ, if_true, if_false, reduceIte, Bool.not_true, Bool.not_false, Bool.false_eq_true, reduceCtorEq, decide_eq_true h1, if_pos h1]
  · by_cases h2 : sumAt c a - sumAt c b < 0
    · simp only [dIx_t0, dIx_t1, dIx_l0, dIx_l1, toItems, itemsOf, runF, runL, startE, endF, endL, R.bind_ok, R.bind_exc, R.bind_stuck, gSeq, gIf, gSet, gOwn, gRet, gRetL, gRetO, gDrop, gTgt, gT, gsC, gsN, gN, gFor, gApp, gExt, gFrz, gNil, gExc, eVar, eC, e1, e2, eA, aNil, aCons, eTup, eLst, eCall, lCall, listR, eChain, tV, tAndD, tOrD, tNotD, eAnd, eOr, eNot, eIf, eL, lDisp, lList, lRep, oNone, oSome, eSl, iSeq, iRng1, iRng2, iZipD, iEnumD, iRevD, lListRange, lLc, eSorted, eSortSet, eLenSet, eBor, tBor, tYesD, noE, toB, dCmp, dSub, dNeg, dInt, dLen, dIs, dIsNot, List.map_cons, List.map_nil, List.length_cons, List.length_nil, Nat.reduceAdd, Nat.reduceSub, Nat.reduceLeDiff, List.replicate, List.cons_append, List.nil_append, List.append_nil, List.getElem?_cons_zero, List.getElem?_cons_succ, List.set_cons_zero, List.set_cons_succ, if_true, if_false, reduceIte, Bool.not_true, Bool.not_false, Bool.false_eq_true, reduceCtorEq, decide_eq_false h1, decide_eq_true h2, if_neg h1, if_pos h2]
    · simp only [dIx_t0, dIx_t1, dIx_l0, dIx_l1, toItems, itemsOf, runF, runL, startE, endF, endL, R.bind_ok, R.bind_exc, R.bind_stuck, gSeq, gIf, gSet, gOwn, gRet, gRetL, gRetO, gDrop, gTgt, gT, gsC, gsN, gN, gFor, gApp, gExt, gFrz, gNil, gExc, eVar, eC, e1, e2, eA, aNil, aCons, eTup, eLst, eCall, lCall, listR, eChain, tV, tAndD, tOrD, tNotD, eAnd, eOr, eNot, eIf, eL, lDisp, lList, lRep, oNone, oSome, eSl, iSeq, iRng1, iRng2, iZipD, iEnumD, iRevD, lListRange, lLc, eSorted, eSortSet, eLenSet, eBor, tBor, tYesD, noE, toB, dCmp, dSub, dNeg, dInt, dLen, dIs, dIsNot, List.map_cons, List.map_nil, List.length_cons, List.length_nil, Nat.reduceAdd, Nat.reduceSub, Nat.reduceLeDiff, List.replicate, List.cons_append, List.nil_append, List.append_nil, List.getElem?_cons_zero, List.getElem?_cons_succ, List.set_cons_zero, List.set_cons_succ, if_true, if_false, reduceIte, Bool.not_true, Bool.not_false, Bool.false_eq_true, reduceCtorEq, decide_eq_false h1, decide_eq_false h2, if_neg h1, if_neg h2]
theorem cameI_swap (a b c : List Int) : cameI b a c = 0 - cameI a b c := by
  unfold cameI sgn
  by_cases h1 : 0 < sumAt c a - sumAt c b
  · rw [if_neg (by omega), if_pos (by omega), if_pos h1]; rfl
  · by_cases h2 : sumAt c a - sumAt c b < 0
    · rw [if_pos (by omega), if_neg h1, if_pos h2]; rfl
    · rw [if_neg (by omega), if_neg (by omega), if_neg h1, if_neg h2]; rfl
end W

set_option Elab.async false
set_option linter.all false
set_option maxRecDepth 100000
set_option maxHeartbeats 1000000
namespace W
open PySem PL
theorem F__law_whole_eq (t : D) (h : tyD t ≠ none) : F__law_whole [t] = .ok (.bool (match t with | .int _ => true | _ => false)) := by
  unfold F__law_whole g__law_whole
  simp only [dIx_t0, dIx_t1, dIx_l0, dIx_l1, toItems, itemsOf, runF, runL, startE, endF, endL, R.bind_ok, R.bind_exc, R.bind_stuck, gSeq, gIf, gSet, gOwn, gRet, gRetL, gRetO, gDrop, gTgt, gT, gsC, gsN, gN, gFor, gApp, gExt, gFrz, gNil, gExc, eVar, eC, e1, e2, eA, aNil, aCons, eTup, eLst, eCall, lCall, listR, eChain, tV, tAndD, tOrD, tNotD, eAnd, eOr, eNot, eIf, eL, lDisp, lList, lRep, oNone, oSome, eSl, iSeq, iRng1, iRng2, iZipD, iEnumD, iRevD, lListRange, lLc, eSorted, eSortSet, eLenSet, eBor, tBor, tYesD, noE, toB, dCmp, dSub, dNeg, dInt, dLen, dIs, dIsNot, List.map_cons, List.map_nil, List.length_cons, List.length_nil, Nat.reduceAdd, Nat.reduceSub, Nat.reduceLeDiff, List.replicate, List.cons_append, List.nil_append, List.append_nil, List.getElem?_cons_zero, List.getElem?_cons_succ, List.set_cons_zero, List.set_cons_succ, if_true, if_false, reduceIte, Bool.not_true, Bool.not_false, Bool.false_eq_true, reduceCtorEq, isi_int t h, isi_bool t h]
  cases t <;> simp only [dIx_t0, dIx_t1, dIx_l0, dIx_l1, toItems, itemsOf, runF, runL, startE, endF, endL, R.bind_ok, R.bind_exc, R.bind_stuck, gSeq, gIf, gSet, gOwn, gRet, gRetL, gRetO, gDrop, gTgt, gT, gsC, gsN, gN, gFor, gApp, gExt, gFrz, gNil, gExc, eVar, eC, e1, e2, eA, aNil, aCons, eTup, eLst, eCall, lCall, listR, eChain, tV, tAndD, tOrD, tNotD, eAnd, eOr, eNot, eIf, eL, lDisp, lList, lRep, oNone, oSome, eSl, iSeq, iRng1, iRng2, iZipD, iEnumD, iRevD, lListRange, lLc, eSorted, eSortSet, eLenSet, eBor, tBor, tYesD, noE, toB, dCmp, dSub, dNeg, dInt, dLen, dIs, dIsNot, List.map_cons, List.map_nil, List.length_cons, List.length_nil, Nat.reduceAdd, Nat.reduceSub, Nat.reduceLeDiff, List.replicate, List.cons_append, List.nil_append, List.append_nil, List.getElem?_cons_zero, List.getElem?_cons_succ, List.set_cons_zero, List.set_cons_succ, if_true, if_false, reduceIte, Bool.not_true, Bool.not_false, Bool.false_eq_true, reduceCtorEq]
theorem law_whole_int (z : Int) : F__law_whole [.int z] = .ok (.bool true) := F__law_whole_eq (.int z) (by simp [tyD])
end W

set_option Elab.async false
set_option linter.all false
set_option maxRecDepth 100000
set_option maxHeartbeats 1000000
namespace W
open PySem PL
/-! ### weighings, typed; those that lead -/
abbrev Wg := List Int × List Int
def encW (w : Wg) : D := .tuple [.tuple (w.1.map PyData.int), .tuple (w.2.map PyData.int)]
def Ws : Nat → List Wg
  | 2 => [([0], [1])]
  | 3 => [([0], [1]), ([0], [2]), ([1], [2])]
  | 4 => [([0], [1]), ([0], [2]), ([0], [3]), ([0, 1], [2, 3]), ([0, 2], [1, 3]), ([0, 3], [1, 2]), ([1], [2]), ([1], [3]), ([2], [3])]
  | 5 => [([0], [1]), ([0], [2]), ([0], [3]), ([0], [4]), ([0, 1], [2, 3]), ([0, 1], [2, 4]), ([0, 1], [3, 4]), ([0, 2], [1, 3]), ([0, 2], [1, 4]), ([0, 2], [3, 4]), ([0, 3], [1, 2]), ([0, 3], [1, 4]), ([0, 3], [2, 4]), ([0, 4], [1, 2]), ([0, 4], [1, 3]), ([0, 4], [2, 3]), ([1], [2]), ([1], [3]), ([1], [4]), ([1, 2], [3, 4]), ([1, 3], [2, 4]), ([1, 4], [2, 3]), ([2], [3]), ([2], [4]), ([3], [4])]
  | _ => []

set_option maxHeartbeats 0 in
theorem pans2 : F__law_pans [.int 2] = .ok ((Ws 2).map encW) := by kernel_rfl
set_option maxHeartbeats 0 in
theorem pans3 : F__law_pans [.int 3] = .ok ((Ws 3).map encW) := by kernel_rfl
set_option maxHeartbeats 0 in
theorem pans4 : F__law_pans [.int 4] = .ok ((Ws 4).map encW) := by kernel_rfl
set_option maxHeartbeats 0 in
theorem pans5 : F__law_pans [.int 5] = .ok ((Ws 5).map encW) := by kernel_rfl
theorem pans_eq {m : Nat} (hm : Many m) : F__law_pans [.int m] = .ok ((Ws m).map encW) := by
  rcases hm with rfl | rfl | rfl | rfl
  · exact pans2
  · exact pans3
  · exact pans4
  · exact pans5
def swapW (w : Wg) : Wg := (w.2, w.1)
theorem Ws_len {m : Nat} (hm : Many m) : 0 < (Ws m).length ∧ (Ws m).length ≤ 25 := by rcases hm with rfl | rfl | rfl | rfl <;> decide
end W

set_option Elab.async false
set_option linter.all false
set_option maxRecDepth 100000
set_option maxHeartbeats 1000000
namespace W
open PySem PL
/-! ### the cases by what a weighing comes to -/
def cm (w : Wg) (c : List Int) : Int := cameI w.1 w.2 c
def WgOk (m : Nat) (w : Wg) : Prop := (∀ i ∈ w.1, 0 ≤ i ∧ i < (m : Int)) ∧ (∀ i ∈ w.2, 0 ≤ i ∧ i < (m : Int)) ∧ w.1.length ≤ 30 ∧ w.2.length ≤ 30
theorem came_eq {m : Nat} {w : Wg} {c : List Int} (hw : WgOk m w) (hc : CaseOk m c) : F_came [encW w, encC c] = .ok (.int (cm w c)) :=
  F_came_eq w.1 w.2 c (fun i hi => by have := hw.1 i hi; rw [hc.1]; exact this) (fun i hi => by have := hw.2.1 i hi; rw [hc.1]; exact this) (by have := hw.2.2.1; omega) (by have := hw.2.2.2; omega)
theorem lcame_eq {m : Nat} {w : Wg} {c : List Int} (hw : WgOk m w) (hc : CaseOk m c) : F__law_came [encW w, encC c] = .ok (.int (cm w c)) :=
  F__law_came_eq w.1 w.2 c (fun i hi => by have := hw.1 i hi; rw [hc.1]; exact this) (fun i hi => by have := hw.2.1 i hi; rw [hc.1]; exact this)
theorem sgn_val (x : Int) : sgn x = -1 ∨ sgn x = 0 ∨ sgn x = 1 := by
  unfold sgn
  by_cases h1 : 0 < x
  · rw [if_pos h1]; simp
  · by_cases h2 : x < 0
    · rw [if_neg h1, if_pos h2]; simp
    · rw [if_neg h1, if_neg h2]; simp
theorem cm_val (w : Wg) (c : List Int) : cm w c = -1 ∨ cm w c = 0 ∨ cm w c = 1 := sgn_val _
theorem cm_swap (w : Wg) (c : List Int) : cm (swapW w) c = 0 - cm w c := cameI_swap w.1 w.2 c
def byW (w : Wg) (d : Int) (cs : List (List Int)) : List (List Int) := cs.filter fun c => decide (cm w c = d)
theorem mem_by {w : Wg} {c : List Int} {cs : List (List Int)} (h : c ∈ cs) : c ∈ byW w (cm w c) cs := List.mem_filter.mpr ⟨h, decide_eq_true rfl⟩
theorem by_sub {w : Wg} {d : Int} {cs : List (List Int)} : ∀ c ∈ byW w d cs, c ∈ cs := fun c h => (List.mem_filter.mp h).1
theorem by_le (w : Wg) (d : Int) (cs : List (List Int)) : (byW w d cs).length ≤ cs.length := List.length_filter_le _ _
theorem by_len (w : Wg) : ∀ (cs : List (List Int)), (byW w (-1) cs).length + (byW w 0 cs).length + (byW w 1 cs).length = cs.length
  | [] => rfl
  | c :: cs => by
    have h := by_len w cs
    unfold byW at h ⊢
    rcases cm_val w c with e | e | e <;> simp [e] <;> omega
/-! ### walks of lists -/
theorem each_enc {step : D → R (List D)} {p : List Int → Bool} : ∀ {cs : List (List Int)}, (∀ c ∈ cs, step (encC c) = .ok (if p c = true then [encC c] else [])) → eachR step (cs.map encC) = .ok ((cs.filter p).map encC)
  | [], _ => rfl
  | c :: cs, h => by
    rw [List.map_cons, eachR, h c (List.mem_cons_self ..), R.bind_ok, each_enc (p := p) fun d hd => h d (List.mem_cons_of_mem _ hd), R.bind_ok]
    by_cases hp : p c = true <;> simp [hp]
theorem each_flt {α : Type} {step : D → R (List D)} {g : α → D} {p : α → Bool} : ∀ {l : List α}, (∀ a ∈ l, step (g a) = .ok (if p a = true then [g a] else [])) → eachR step (l.map g) = .ok ((l.filter p).map g)
  | [], _ => rfl
  | a :: l, h => by
    rw [List.map_cons, eachR, h a (List.mem_cons_self ..), R.bind_ok, each_flt (p := p) fun b hb => h b (List.mem_cons_of_mem _ hb), R.bind_ok]
    by_cases hp : p a = true <;> simp [hp]
theorem each_map' {α : Type} {step : D → R (List D)} {g : α → D} {h : α → D} : ∀ {cs : List α}, (∀ c ∈ cs, step (g c) = .ok [h c]) → eachR step (cs.map g) = .ok (cs.map h)
  | [], _ => rfl
  | c :: cs, e => by
    rw [List.map_cons, eachR, e c (List.mem_cons_self ..), R.bind_ok, each_map' (h := h) fun d hd => e d (List.mem_cons_of_mem _ hd)]
    rfl
theorem each_none {step : D → R (List D)} : ∀ {xs : List D}, (∀ x ∈ xs, step x = .ok []) → eachR step xs = .ok []
  | [], _ => rfl
  | x :: xs, e => by
    rw [eachR, e x (List.mem_cons_self ..), R.bind_ok, each_none fun d hd => e d (List.mem_cons_of_mem _ hd)]
    rfl
theorem each_two {α β : Type} {step : D → R (List D)} {g : α → D} {h : α → D} {p : α → Bool} : ∀ {l : List α}, (∀ a ∈ l, step (g a) = .ok (if p a = true then [h a] else [])) → eachR step (l.map g) = .ok ((l.filter p).map h)
  | [], _ => rfl
  | a :: l, e => by
    rw [List.map_cons, eachR, e a (List.mem_cons_self ..), R.bind_ok, each_two (β := β) (p := p) fun b hb => e b (List.mem_cons_of_mem _ hb), R.bind_ok]
    by_cases hp : p a = true <;> simp [hp]
/-! ### the weighings that lead are weighings -/
def okW (m : Nat) (w : Wg) : Bool := (w.1.all fun i => decide (0 ≤ i ∧ i < (m : Int))) && ((w.2.all fun i => decide (0 ≤ i ∧ i < (m : Int))) && (decide (w.1.length ≤ 30) && decide (w.2.length ≤ 30)))
theorem okW_of {m : Nat} {w : Wg} (h : okW m w = true) : WgOk m w := by
  unfold WgOk
  simpa only [okW, Bool.and_eq_true, List.all_eq_true, decide_eq_true_eq] using h
theorem WgOk.swap {m : Nat} {w : Wg} (h : WgOk m w) : WgOk m (swapW w) := ⟨h.2.1, h.1, h.2.2.2, h.2.2.1⟩
theorem okWs2 : ((Ws 2).all (okW 2)) = true := by decide +kernel
theorem okWs3 : ((Ws 3).all (okW 3)) = true := by decide +kernel
theorem okWs4 : ((Ws 4).all (okW 4)) = true := by decide +kernel
theorem okWs5 : ((Ws 5).all (okW 5)) = true := by decide +kernel
theorem wsOk {m : Nat} (hm : Many m) {w : Wg} (hw : w ∈ Ws m) : WgOk m w := okW_of (by
  rcases hm with rfl | rfl | rfl | rfl
  · exact List.all_eq_true.mp okWs2 w hw
  · exact List.all_eq_true.mp okWs3 w hw
  · exact List.all_eq_true.mp okWs4 w hw
  · exact List.all_eq_true.mp okWs5 w hw)
theorem many25 {m : Nat} (hm : Many m) : 2 ≤ m ∧ m ≤ 5 := by rcases hm with rfl | rfl | rfl | rfl <;> decide
/-! ### shapes -/
theorem encW_sh (w : Wg) : sh 2 (encW w) := sh_tuple (n := 1) fun x hx => by
  simp only [List.mem_cons, List.not_mem_nil, or_false] at hx
  rcases hx with rfl | rfl
  · exact sh_tuple (sh_ints _)
  · exact sh_tuple (sh_ints _)
theorem listE_sh (cs : List (List Int)) : sh 2 (.list (cs.map encC)) := sh_list (n := 1) fun x hx => by
  obtain ⟨c, _, rfl⟩ := List.mem_map.mp hx
  exact encC_sh c
theorem listE_ne (cs : List (List Int)) : dNe (.list (cs.map encC)) (.list (cs.map encC)) = .ok (.bool false) := by
  rw [dNe_sh (listE_sh cs) (listE_sh cs), SeqAt.eqv_refl _ (listE_sh cs).1]
  rfl
theorem listE_ex (cs : List (List Int)) : exact (.list (cs.map encC)) = true := exacts_iff.mpr fun x hx => by
  obtain ⟨c, _, rfl⟩ := List.mem_map.mp hx
  exact encC_exact c
theorem listE_inj {a b : List (List Int)} : (PyData.list (a.map encC) = .list (b.map encC)) ↔ a = b := by
  rw [PyData.list.injEq]
  exact ⟨fun h => (List.map_inj_right fun x y e => encC_inj e).mp h, fun h => by rw [h]⟩
theorem dEq_nil {cs : List (List Int)} : dEq (.list (cs.map encC)) (.list []) = .ok (.bool (cs.isEmpty)) := by
  rw [dEq_sh (n := 2) (listE_sh cs) (sh_list (n := 1) (xs := []) (by simp))]
  cases cs <;> simp [PyData.eqv, PyData.eqvAll]
theorem dNe_nil {cs : List (List Int)} : dNe (.list (cs.map encC)) (.list []) = .ok (.bool (!cs.isEmpty)) := by
  rw [dNe_sh (n := 2) (listE_sh cs) (sh_list (n := 1) (xs := []) (by simp))]
  cases cs <;> simp [PyData.eqv, PyData.eqvAll]
theorem dNe_word (x : Str) (h : PyData.strOk x = true) : dNe (.str x) (.str x) = .ok (.bool false) := by
  rw [dNe_sh (n := 0) (m := 0) (sh_str (by rw [PyData.canLay0]; exact h)) (sh_str (by rw [PyData.canLay0]; exact h))]
  simp [PyData.eqv]
theorem rd_ints' (j : Nat) : rangeD 0 (j : Int) = (List.range j).map fun i : Nat => PyData.int i := by
  unfold rangeD
  rw [Int.sub_zero, Int.toNat_natCast]
  refine List.map_congr_left fun i _ => ?_
  simp
end W

set_option Elab.async false
set_option linter.all false
set_option maxRecDepth 100000
set_option maxHeartbeats 1000000
namespace W
open PySem PL
theorem three_loop : ∀ (ks : List D) (x : Int) (s0 s2 : PL.Slot noObj), ∃ t2, loopF (gN 2) g_threes_L1 ks [s0, .val (.int x), s2] = .ok (.nx, [s0, .val (.int (3 ^ ks.length * x)), t2])
  | [], x, s0, s2 => ⟨s2, by simp [loopF]⟩
  | k :: ks, x, s0, s2 => by
    obtain ⟨t2, e⟩ := three_loop ks (3 * x) s0 (.val k)
    refine ⟨t2, ?_⟩
    have q : small64 3 = true := by decide
    have st : g_threes_L1 [s0, .val (.int x), .val k] = .ok (.nx, [s0, .val (.int (3 * x)), .val k]) := by
      unfold g_threes_L1
      simp only [dIx_t0, dIx_t1, dIx_l0, dIx_l1, toItems, itemsOf, runF, runL, startE, endF, endL, R.bind_ok, R.bind_exc, R.bind_stuck, gSeq, gIf, gSet, gOwn, gRet, gRetL, gRetO, gDrop, gTgt, gT, gsC, gsN, gN, gFor, gApp, gExt, gFrz, gNil, gExc, eVar, eC, e1, e2, eA, aNil, aCons, eTup, eLst, eCall, lCall, listR, eChain, tV, tAndD, tOrD, tNotD, eAnd, eOr, eNot, eIf, eL, lDisp, lList, lRep, oNone, oSome, eSl, iSeq, iRng1, iRng2, iZipD, iEnumD, iRevD, lListRange, lLc, eSorted, eSortSet, eLenSet, eBor, tBor, tYesD, noE, toB, dCmp, dSub, dNeg, dInt, dLen, dIs, dIsNot, List.map_cons, List.map_nil, List.length_cons, List.length_nil, Nat.reduceAdd, Nat.reduceSub, Nat.reduceLeDiff, List.replicate, List.cons_append, List.nil_append, List.append_nil, List.getElem?_cons_zero, List.getElem?_cons_succ, List.set_cons_zero, List.set_cons_succ, if_true, if_false, reduceIte, Bool.not_true, Bool.not_false, Bool.false_eq_true, reduceCtorEq, dMul, q, Bool.true_or]
    simp only [dIx_t0, dIx_t1, dIx_l0, dIx_l1, toItems, itemsOf, runF, runL, startE, endF, endL, R.bind_ok, R.bind_exc, R.bind_stuck, gSeq, gIf, gSet, gOwn, gRet, gRetL, gRetO, gDrop, gTgt, gT, gsC, gsN, gN, gFor, gApp, gExt, gFrz, gNil, gExc, eVar, eC, e1, e2, eA, aNil, aCons, eTup, eLst, eCall, lCall, listR, eChain, tV, tAndD, tOrD, tNotD, eAnd, eOr, eNot, eIf, eL, lDisp, lList, lRep, oNone, oSome, eSl, iSeq, iRng1, iRng2, iZipD, iEnumD, iRevD, lListRange, lLc, eSorted, eSortSet, eLenSet, eBor, tBor, tYesD, noE, toB, dCmp, dSub, dNeg, dInt, dLen, dIs, dIsNot, List.map_cons, List.map_nil, List.length_cons, List.length_nil, Nat.reduceAdd, Nat.reduceSub, Nat.reduceLeDiff, List.replicate, List.cons_append, List.nil_append, List.append_nil, List.getElem?_cons_zero, List.getElem?_cons_succ, List.set_cons_zero, List.set_cons_succ, if_true, if_false, reduceIte, Bool.not_true, Bool.not_false, Bool.false_eq_true, reduceCtorEq, loopF, st, e]
    rw [show (3 : Int) ^ (ks.length + 1) * x = 3 ^ ks.length * (3 * x) by rw [Int.pow_succ, Int.mul_assoc]]
theorem F_threes_eq (n : Nat) (h : n ≤ 1000) : F_threes [.int n] = .ok (.int (3 ^ n)) := by
  obtain ⟨t2, e⟩ := three_loop ((List.range n).map fun i : Nat => PyData.int i) 1 (.val (.int n)) .no
  have j : (-100000 ≤ (n : Int) ∧ (n : Int) ≤ 100000) := by omega
  unfold F_threes g_threes
  simp only [dIx_t0, dIx_t1, dIx_l0, dIx_l1, toItems, itemsOf, runF, runL, startE, endF, endL, R.bind_ok, R.bind_exc, R.bind_stuck, gSeq, gIf, gSet, gOwn, gRet, gRetL, gRetO, gDrop, gTgt, gT, gsC, gsN, gN, gFor, gApp, gExt, gFrz, gNil, gExc, eVar, eC, e1, e2, eA, aNil, aCons, eTup, eLst, eCall, lCall, listR, eChain, tV, tAndD, tOrD, tNotD, eAnd, eOr, eNot, eIf, eL, lDisp, lList, lRep, oNone, oSome, eSl, iSeq, iRng1, iRng2, iZipD, iEnumD, iRevD, lListRange, lLc, eSorted, eSortSet, eLenSet, eBor, tBor, tYesD, noE, toB, dCmp, dSub, dNeg, dInt, dLen, dIs, dIsNot, List.map_cons, List.map_nil, List.length_cons, List.length_nil, Nat.reduceAdd, Nat.reduceSub, Nat.reduceLeDiff, List.replicate, List.cons_append, List.nil_append, List.append_nil, List.getElem?_cons_zero, List.getElem?_cons_succ, List.set_cons_zero, List.set_cons_succ, if_true, if_false, reduceIte, Bool.not_true, Bool.not_false, Bool.false_eq_true, reduceCtorEq, j, and_self, rd_ints', e, List.length_map, List.length_range, Int.mul_one]
theorem pow3_pos (n : Nat) : (1 : Nat) ≤ 3 ^ n := Nat.one_le_pow _ _ (by decide)
theorem pow3_cast (n : Nat) : ((3 ^ n : Nat) : Int) = 3 ^ n := by simp
theorem dGt_three (a n : Nat) : dGt (.int a) (.int (3 ^ n)) = .ok (.bool (decide (3 ^ n < a))) := by
  show R.ok (PyData.bool (decide ((3 : Int) ^ n < a))) = _
  congr 2
  rw [← pow3_cast]
  exact decide_eq_decide.mpr Int.ofNat_lt
theorem F_is_many_eq (cs : List (List Int)) (n : Nat) (h : n ≤ 1000) : F_is_many [.list (cs.map encC), .int n] = .ok (.bool (decide (3 ^ n < cs.length))) := by
  unfold F_is_many g_is_many
  simp only [dIx_t0, dIx_t1, dIx_l0, dIx_l1, toItems, itemsOf, runF, runL, startE, endF, endL, R.bind_ok, R.bind_exc, R.bind_stuck, gSeq, gIf, gSet, gOwn, gRet, gRetL, gRetO, gDrop, gTgt, gT, gsC, gsN, gN, gFor, gApp, gExt, gFrz, gNil, gExc, eVar, eC, e1, e2, eA, aNil, aCons, eTup, eLst, eCall, lCall, listR, eChain, tV, tAndD, tOrD, tNotD, eAnd, eOr, eNot, eIf, eL, lDisp, lList, lRep, oNone, oSome, eSl, iSeq, iRng1, iRng2, iZipD, iEnumD, iRevD, lListRange, lLc, eSorted, eSortSet, eLenSet, eBor, tBor, tYesD, noE, toB, dCmp, dSub, dNeg, dInt, dLen, dIs, dIsNot, List.map_cons, List.map_nil, List.length_cons, List.length_nil, Nat.reduceAdd, Nat.reduceSub, Nat.reduceLeDiff, List.replicate, List.cons_append, List.nil_append, List.append_nil, List.getElem?_cons_zero, List.getElem?_cons_succ, List.set_cons_zero, List.set_cons_succ, if_true, if_false, reduceIte, Bool.not_true, Bool.not_false, Bool.false_eq_true, reduceCtorEq, F_threes_eq n h, List.length_map, dGt_three]
end W

set_option Elab.async false
set_option linter.all false
set_option maxRecDepth 100000
set_option maxHeartbeats 1000000
namespace W
open PySem PL
theorem law_threes : F__law_threes = F_threes := rfl
end W

set_option Elab.async false
set_option linter.all false
set_option maxRecDepth 100000
set_option maxHeartbeats 1000000
namespace W
open PySem PL
/-! ### the program's list of the weighings that lead -/
set_option maxHeartbeats 0 in
theorem leading2 : F_leading [.int 2] = .ok ((Ws 2).map encW) := by kernel_rfl
set_option maxHeartbeats 0 in
theorem leading3 : F_leading [.int 3] = .ok ((Ws 3).map encW) := by kernel_rfl
set_option maxHeartbeats 0 in
theorem leading4 : F_leading [.int 4] = .ok ((Ws 4).map encW) := by kernel_rfl
set_option maxHeartbeats 0 in
theorem leading5 : F_leading [.int 5] = .ok ((Ws 5).map encW) := by kernel_rfl
theorem leading_eq {m : Nat} (hm : Many m) : F_leading [.int m] = .ok ((Ws m).map encW) := by
  rcases hm with rfl | rfl | rfl | rfl
  · exact leading2
  · exact leading3
  · exact leading4
  · exact leading5
end W

set_option Elab.async false
set_option linter.all false
set_option maxRecDepth 100000
set_option maxHeartbeats 1000000
namespace W
open PySem PL
/-! ### is_pan -/
def riseD (m : Int) : Option Int → List D → Bool
  | _, [] => true
  | p, .int z :: r => decide (0 ≤ z) && decide (z ≤ m - 1) && (match p with | some q => decide (q < z) | none => true) && riseD m (some z) r
  | _, _ :: _ => false
def isPan (m : Int) : D → Bool
  | .tuple xs => !xs.isEmpty && riseD m none xs
  | _ => false
def ltO : Option Int → D → Bool
  | some q, .int z => decide (q < z)
  | _, _ => true
def riseD_cons (m : Int) (p : Option Int) (z : D) (r : List D) : Bool := amongB 0 (m - 1) z && ltO p z && (match z with | .int z => riseD m (some z) r | _ => false)
theorem riseD_eq (m : Int) (p : Option Int) (z : D) (r : List D) : riseD m p (z :: r) = riseD_cons m p z r := by
  cases z <;> cases p <;> simp [riseD, riseD_cons, amongB, ltO]
theorem pan_step (m : Int) (full : List D) (k : Nat) (z : D) (p : Option Int) (hz : tyD z ≠ none) (hp : (k = 0 ∧ p = none) ∨ (∃ q, p = some q ∧ 0 < k ∧ full[k - 1]? = some (.int q))) :
    g_is_pan_L1 [.val (.int m), .val (.tuple full), .val (.int k), .val z] =
      if (amongB 0 (m - 1) z && ltO p z) = true then .ok (.nx, [.val (.int m), .val (.tuple full), .val (.int k), .val z])
      else .ok (.rt (.bool false), [.val (.int m), .val (.tuple full), .val (.int k), .val z]) := by
  unfold g_is_pan_L1
  simp only [dIx_t0, dIx_t1, dIx_l0, dIx_l1, toItems, itemsOf, runF, runL, startE, endF, endL, R.bind_ok, R.bind_exc, R.bind_stuck, gSeq, gIf, gSet, gOwn, gRet, gRetL, gRetO, gDrop, gTgt, gT, gsC, gsN, gN, gFor, gApp, gExt, gFrz, gNil, gExc, eVar, eC, e1, e2, eA, aNil, aCons, eTup, eLst, eCall, lCall, listR, eChain, tV, tAndD, tOrD, tNotD, eAnd, eOr, eNot, eIf, eL, lDisp, lList, lRep, oNone, oSome, eSl, iSeq, iRng1, iRng2, iZipD, iEnumD, iRevD, lListRange, lLc, eSorted, eSortSet, eLenSet, eBor, tBor, tYesD, noE, toB, dCmp, dSub, dNeg, dInt, dLen, dIs, dIsNot, List.map_cons, List.map_nil, List.length_cons, List.length_nil, Nat.reduceAdd, Nat.reduceSub, Nat.reduceLeDiff, List.replicate, List.cons_append, List.nil_append, List.append_nil, List.getElem?_cons_zero, List.getElem?_cons_succ, List.set_cons_zero, List.set_cons_succ, if_true, if_false, reduceIte, Bool.not_true, Bool.not_false, Bool.false_eq_true, reduceCtorEq, F_is_among_eq z hz]
  cases z
  case int z =>
    rcases hp with ⟨rfl, rfl⟩ | ⟨q, rfl, hk, hq⟩
    · cases h : amongB 0 (m - 1) (.int z) <;> simp only [dIx_t0, dIx_t1, dIx_l0, dIx_l1, toItems, itemsOf, runF, runL, startE, endF, endL, R.bind_ok, R.bind_exc, R.bind_stuck, gSeq, gIf, gSet, gOwn, gRet, gRetL, gRetO, gDrop, gTgt, gT, gsC, gsN, gN, gFor, gApp, gExt, gFrz, gNil, gExc, eVar, eC, e1, e2, eA, aNil, aCons, eTup, eLst, eCall, lCall, listR, eChain, tV, tAndD, tOrD, tNotD, eAnd, eOr, eNot, eIf, eL, lDisp, lList, lRep, oNone, oSome, eSl, iSeq, iRng1, iRng2, iZipD, iEnumD, iRevD, lListRange, lLc, eSorted, eSortSet, eLenSet, eBor, tBor, tYesD, noE, toB, dCmp, dSub, dNeg, dInt, dLen, dIs, dIsNot, List.map_cons, List.map_nil, List.length_cons, List.length_nil, Nat.reduceAdd, Nat.reduceSub, Nat.reduceLeDiff, List.replicate, List.cons_append, List.nil_append, List.append_nil, List.getElem?_cons_zero, List.getElem?_cons_succ, List.set_cons_zero, List.set_cons_succ, if_true, if_false, reduceIte, Bool.not_true, Bool.not_false, Bool.false_eq_true, reduceCtorEq, Bool.and_true, Bool.true_and, Bool.false_and, Int.natCast_zero, Int.lt_irrefl, decide_false, decide_true, ltO]
      all_goals rfl
    · have e1 : (((k : Nat) : Int) - 1).toNat = k - 1 := by omega
      have e2 : decide ((0 : Int) < (k : Nat)) = true := decide_eq_true (by omega)
      rw [dIx_tup (i := ((k : Nat) : Int) - 1) (y := .int q) (by omega) (by rw [e1]; exact hq)]
      cases h : amongB 0 (m - 1) (.int z) <;> simp only [dIx_t0, dIx_t1, dIx_l0, dIx_l1, toItems, itemsOf, runF, runL, startE, endF, endL, R.bind_ok, R.bind_exc, R.bind_stuck, gSeq, gIf, gSet, gOwn, gRet, gRetL, gRetO, gDrop, gTgt, gT, gsC, gsN, gN, gFor, gApp, gExt, gFrz, gNil, gExc, eVar, eC, e1, e2, eA, aNil, aCons, eTup, eLst, eCall, lCall, listR, eChain, tV, tAndD, tOrD, tNotD, eAnd, eOr, eNot, eIf, eL, lDisp, lList, lRep, oNone, oSome, eSl, iSeq, iRng1, iRng2, iZipD, iEnumD, iRevD, lListRange, lLc, eSorted, eSortSet, eLenSet, eBor, tBor, tYesD, noE, toB, dCmp, dSub, dNeg, dInt, dLen, dIs, dIsNot, List.map_cons, List.map_nil, List.length_cons, List.length_nil, Nat.reduceAdd, Nat.reduceSub, Nat.reduceLeDiff, List.replicate, List.cons_append, List.nil_append, List.append_nil, List.getElem?_cons_zero, List.getElem?_cons_succ, List.set_cons_zero, List.set_cons_succ, if_true, if_false, reduceIte, Bool.not_true, Bool.not_false, Bool.false_eq_true, reduceCtorEq, e2, Bool.true_and, Bool.false_and, ltO]
      by_cases h2 : q < z
      · simp only [dIx_t0, dIx_t1, dIx_l0, dIx_l1, toItems, itemsOf, runF, runL, startE, endF, endL, R.bind_ok, R.bind_exc, R.bind_stuck, gSeq, gIf, gSet, gOwn, gRet, gRetL, gRetO, gDrop, gTgt, gT, gsC, gsN, gN, gFor, gApp, gExt, gFrz, gNil, gExc, eVar, eC, e1, e2, eA, aNil, aCons, eTup, eLst, eCall, lCall, listR, eChain, tV, tAndD, tOrD, tNotD, eAnd, eOr, eNot, eIf, eL, lDisp, lList, lRep, oNone, oSome, eSl, iSeq, iRng1, iRng2, iZipD, iEnumD, iRevD, lListRange, lLc, eSorted, eSortSet, eLenSet, eBor, tBor, tYesD, noE, toB, dCmp, dSub, dNeg, dInt, dLen, dIs, dIsNot, List.map_cons, List.map_nil, List.length_cons, List.length_nil, Nat.reduceAdd, Nat.reduceSub, Nat.reduceLeDiff, List.replicate, List.cons_append, List.nil_append, List.append_nil, List.getElem?_cons_zero, List.getElem?_cons_succ, List.set_cons_zero, List.set_cons_succ, if_true, if_false, reduceIte, Bool.not_true, Bool.not_false, Bool.false_eq_true, reduceCtorEq, h2, decide_true, show ¬ z ≤ q by omega, decide_false]
      · simp only [dIx_t0, dIx_t1, dIx_l0, dIx_l1, toItems, itemsOf, runF, runL, startE, endF, endL, R.bind_ok, R.bind_exc, R.bind_stuck, gSeq, gIf, gSet, gOwn, gRet, gRetL, gRetO, gDrop, gTgt, gT, gsC, gsN, gN, gFor, gApp, gExt, gFrz, gNil, gExc, eVar, eC, e1, e2, eA, aNil, aCons, eTup, eLst, eCall, lCall, listR, eChain, tV, tAndD, tOrD, tNotD, eAnd, eOr, eNot, eIf, eL, lDisp, lList, lRep, oNone, oSome, eSl, iSeq, iRng1, iRng2, iZipD, iEnumD, iRevD, lListRange, lLc, eSorted, eSortSet, eLenSet, eBor, tBor, tYesD, noE, toB, dCmp, dSub, dNeg, dInt, dLen, dIs, dIsNot, List.map_cons, List.map_nil, List.length_cons, List.length_nil, Nat.reduceAdd, Nat.reduceSub, Nat.reduceLeDiff, List.replicate, List.cons_append, List.nil_append, List.append_nil, List.getElem?_cons_zero, List.getElem?_cons_succ, List.set_cons_zero, List.set_cons_succ, if_true, if_false, reduceIte, Bool.not_true, Bool.not_false, Bool.false_eq_true, reduceCtorEq, h2, decide_false, show z ≤ q by omega, decide_true]
  all_goals simp only [dIx_t0, dIx_t1, dIx_l0, dIx_l1, toItems, itemsOf, runF, runL, startE, endF, endL, R.bind_ok, R.bind_exc, R.bind_stuck, gSeq, gIf, gSet, gOwn, gRet, gRetL, gRetO, gDrop, gTgt, gT, gsC, gsN, gN, gFor, gApp, gExt, gFrz, gNil, gExc, eVar, eC, e1, e2, eA, aNil, aCons, eTup, eLst, eCall, lCall, listR, eChain, tV, tAndD, tOrD, tNotD, eAnd, eOr, eNot, eIf, eL, lDisp, lList, lRep, oNone, oSome, eSl, iSeq, iRng1, iRng2, iZipD, iEnumD, iRevD, lListRange, lLc, eSorted, eSortSet, eLenSet, eBor, tBor, tYesD, noE, toB, dCmp, dSub, dNeg, dInt, dLen, dIs, dIsNot, List.map_cons, List.map_nil, List.length_cons, List.length_nil, Nat.reduceAdd, Nat.reduceSub, Nat.reduceLeDiff, List.replicate, List.cons_append, List.nil_append, List.append_nil, List.getElem?_cons_zero, List.getElem?_cons_succ, List.set_cons_zero, List.set_cons_succ, if_true, if_false, reduceIte, Bool.not_true, Bool.not_false, Bool.false_eq_true, reduceCtorEq, amongB, Bool.false_and]
theorem pan_loop (m : Int) (full : List D) : ∀ (suf : List D) (k : Nat) (p : Option Int) (s2 s3 : PL.Slot noObj), full.drop k = suf → (∀ x ∈ suf, tyD x ≠ none) → ((k = 0 ∧ p = none) ∨ (∃ q, p = some q ∧ 0 < k ∧ full[k - 1]? = some (.int q))) →
    ∃ s2' s3', loopF (gT 2 (gsC (gN 2) (gsC (gN 3) gsN))) g_is_pan_L1 (enumFrom k suf) [.val (.int m), .val (.tuple full), s2, s3] =
      if riseD m p suf = true then .ok (.nx, [.val (.int m), .val (.tuple full), s2', s3']) else .ok (.rt (.bool false), [.val (.int m), .val (.tuple full), s2', s3'])
  | [], k, p, s2, s3, _, _, _ => ⟨s2, s3, by simp only [dIx_t0, dIx_t1, dIx_l0, dIx_l1, toItems, itemsOf, runF, runL, startE, endF, endL, R.bind_ok, R.bind_exc, R.bind_stuck, gSeq, gIf, gSet, gOwn, gRet, gRetL, gRetO, gDrop, gTgt, gT, gsC, gsN, gN, gFor, gApp, gExt, gFrz, gNil, gExc, eVar, eC, e1, e2, eA, aNil, aCons, eTup, eLst, eCall, lCall, listR, eChain, tV, tAndD, tOrD, tNotD, eAnd, eOr, eNot, eIf, eL, lDisp, lList, lRep, oNone, oSome, eSl, iSeq, iRng1, iRng2, iZipD, iEnumD, iRevD, lListRange, lLc, eSorted, eSortSet, eLenSet, eBor, tBor, tYesD, noE, toB, dCmp, dSub, dNeg, dInt, dLen, dIs, dIsNot, List.map_cons, List.map_nil, List.length_cons, List.length_nil, Nat.reduceAdd, Nat.reduceSub, Nat.reduceLeDiff, List.replicate, List.cons_append, List.nil_append, List.append_nil, List.getElem?_cons_zero, List.getElem?_cons_succ, List.set_cons_zero, List.set_cons_succ, if_true, if_false, reduceIte, Bool.not_true, Bool.not_false, Bool.false_eq_true, reduceCtorEq, riseD, loopF, enumFrom]⟩
  | z :: suf, k, p, s2, s3, hf, ht, hp => by
    have hz : tyD z ≠ none := ht z (List.mem_cons_self ..)
    rw [riseD_eq]
    simp only [dIx_t0, dIx_t1, dIx_l0, dIx_l1, toItems, itemsOf, runF, runL, startE, endF, endL, R.bind_ok, R.bind_exc, R.bind_stuck, gSeq, gIf, gSet, gOwn, gRet, gRetL, gRetO, gDrop, gTgt, gT, gsC, gsN, gN, gFor, gApp, gExt, gFrz, gNil, gExc, eVar, eC, e1, e2, eA, aNil, aCons, eTup, eLst, eCall, lCall, listR, eChain, tV, tAndD, tOrD, tNotD, eAnd, eOr, eNot, eIf, eL, lDisp, lList, lRep, oNone, oSome, eSl, iSeq, iRng1, iRng2, iZipD, iEnumD, iRevD, lListRange, lLc, eSorted, eSortSet, eLenSet, eBor, tBor, tYesD, noE, toB, dCmp, dSub, dNeg, dInt, dLen, dIs, dIsNot, List.map_cons, List.map_nil, List.length_cons, List.length_nil, Nat.reduceAdd, Nat.reduceSub, Nat.reduceLeDiff, List.replicate, List.cons_append, List.nil_append, List.append_nil, List.getElem?_cons_zero, List.getElem?_cons_succ, List.set_cons_zero, List.set_cons_succ, if_true, if_false, reduceIte, Bool.not_true, Bool.not_false, Bool.false_eq_true, reduceCtorEq, loopF, enumFrom, pan_step m full k z p hz hp]
    unfold riseD_cons
    by_cases hc : (amongB 0 (m - 1) z && ltO p z) = true
    · rw [hc]
      simp only [dIx_t0, dIx_t1, dIx_l0, dIx_l1, toItems, itemsOf, runF, runL, startE, endF, endL, R.bind_ok, R.bind_exc, R.bind_stuck, gSeq, gIf, gSet, gOwn, gRet, gRetL, gRetO, gDrop, gTgt, gT, gsC, gsN, gN, gFor, gApp, gExt, gFrz, gNil, gExc, eVar, eC, e1, e2, eA, aNil, aCons, eTup, eLst, eCall, lCall, listR, eChain, tV, tAndD, tOrD, tNotD, eAnd, eOr, eNot, eIf, eL, lDisp, lList, lRep, oNone, oSome, eSl, iSeq, iRng1, iRng2, iZipD, iEnumD, iRevD, lListRange, lLc, eSorted, eSortSet, eLenSet, eBor, tBor, tYesD, noE, toB, dCmp, dSub, dNeg, dInt, dLen, dIs, dIsNot, List.map_cons, List.map_nil, List.length_cons, List.length_nil, Nat.reduceAdd, Nat.reduceSub, Nat.reduceLeDiff, List.replicate, List.cons_append, List.nil_append, List.append_nil, List.getElem?_cons_zero, List.getElem?_cons_succ, List.set_cons_zero, List.set_cons_succ, if_true, if_false, reduceIte, Bool.not_true, Bool.not_false, Bool.false_eq_true, reduceCtorEq, Bool.true_and]
      cases z
      case int z =>
        have hk : full[k]? = some (.int z) := by
          have := congrArg (fun l : List D => l[0]?) hf
          simpa using this
        have hd : full.drop (k + 1) = suf := by
          have := congrArg (List.drop 1) hf
          simpa [List.drop_drop, Nat.add_comm] using this
        exact pan_loop m full suf (k + 1) (some z) _ _ hd (fun x hx => ht x (List.mem_cons_of_mem _ hx)) (.inr ⟨z, rfl, by omega, by simpa using hk⟩)
      all_goals simp [amongB] at hc
    · rw [Bool.not_eq_true] at hc
      rw [hc]
      simp only [dIx_t0, dIx_t1, dIx_l0, dIx_l1, toItems, itemsOf, runF, runL, startE, endF, endL, R.bind_ok, R.bind_exc, R.bind_stuck, gSeq, gIf, gSet, gOwn, gRet, gRetL, gRetO, gDrop, gTgt, gT, gsC, gsN, gN, gFor, gApp, gExt, gFrz, gNil, gExc, eVar, eC, e1, e2, eA, aNil, aCons, eTup, eLst, eCall, lCall, listR, eChain, tV, tAndD, tOrD, tNotD, eAnd, eOr, eNot, eIf, eL, lDisp, lList, lRep, oNone, oSome, eSl, iSeq, iRng1, iRng2, iZipD, iEnumD, iRevD, lListRange, lLc, eSorted, eSortSet, eLenSet, eBor, tBor, tYesD, noE, toB, dCmp, dSub, dNeg, dInt, dLen, dIs, dIsNot, List.map_cons, List.map_nil, List.length_cons, List.length_nil, Nat.reduceAdd, Nat.reduceSub, Nat.reduceLeDiff, List.replicate, List.cons_append, List.nil_append, List.append_nil, List.getElem?_cons_zero, List.getElem?_cons_succ, List.set_cons_zero, List.set_cons_succ, if_true, if_false, reduceIte, Bool.not_true, Bool.not_false, Bool.false_eq_true, reduceCtorEq, Bool.false_and]
      exact ⟨_, _, rfl⟩
theorem F_is_pan_eq (m : Int) (t : D) (h : sh 60 t ∨ t = .dict []) : F_is_pan [.int m, t] = .ok (.bool (isPan m t)) := by
  unfold F_is_pan g_is_pan
  have ht : tyD t ≠ none := by
    rcases h with h | rfl
    · exact ty_of_sh h
    · simp [tyD]
  simp only [dIx_t0, dIx_t1, dIx_l0, dIx_l1, toItems, itemsOf, runF, runL, startE, endF, endL, R.bind_ok, R.bind_exc, R.bind_stuck, gSeq, gIf, gSet, gOwn, gRet, gRetL, gRetO, gDrop, gTgt, gT, gsC, gsN, gN, gFor, gApp, gExt, gFrz, gNil, gExc, eVar, eC, e1, e2, eA, aNil, aCons, eTup, eLst, eCall, lCall, listR, eChain, tV, tAndD, tOrD, tNotD, eAnd, eOr, eNot, eIf, eL, lDisp, lList, lRep, oNone, oSome, eSl, iSeq, iRng1, iRng2, iZipD, iEnumD, iRevD, lListRange, lLc, eSorted, eSortSet, eLenSet, eBor, tBor, tYesD, noE, toB, dCmp, dSub, dNeg, dInt, dLen, dIs, dIsNot, List.map_cons, List.map_nil, List.length_cons, List.length_nil, Nat.reduceAdd, Nat.reduceSub, Nat.reduceLeDiff, List.replicate, List.cons_append, List.nil_append, List.append_nil, List.getElem?_cons_zero, List.getElem?_cons_succ, List.set_cons_zero, List.set_cons_succ, if_true, if_false, reduceIte, Bool.not_true, Bool.not_false, Bool.false_eq_true, reduceCtorEq, isi_tuple t ht]
  cases t
  case tuple xs =>
    have hs : sh 60 (.tuple xs) := h.resolve_right (by simp)
    simp only [dIx_t0, dIx_t1, dIx_l0, dIx_l1, toItems, itemsOf, runF, runL, startE, endF, endL, R.bind_ok, R.bind_exc, R.bind_stuck, gSeq, gIf, gSet, gOwn, gRet, gRetL, gRetO, gDrop, gTgt, gT, gsC, gsN, gN, gFor, gApp, gExt, gFrz, gNil, gExc, eVar, eC, e1, e2, eA, aNil, aCons, eTup, eLst, eCall, lCall, listR, eChain, tV, tAndD, tOrD, tNotD, eAnd, eOr, eNot, eIf, eL, lDisp, lList, lRep, oNone, oSome, eSl, iSeq, iRng1, iRng2, iZipD, iEnumD, iRevD, lListRange, lLc, eSorted, eSortSet, eLenSet, eBor, tBor, tYesD, noE, toB, dCmp, dSub, dNeg, dInt, dLen, dIs, dIsNot, List.map_cons, List.map_nil, List.length_cons, List.length_nil, Nat.reduceAdd, Nat.reduceSub, Nat.reduceLeDiff, List.replicate, List.cons_append, List.nil_append, List.append_nil, List.getElem?_cons_zero, List.getElem?_cons_succ, List.set_cons_zero, List.set_cons_succ, if_true, if_false, reduceIte, Bool.not_true, Bool.not_false, Bool.false_eq_true, reduceCtorEq, dEq_sh hs (sh_tuple (n := 1) (xs := []) (by simp))]
    cases xs with
    | nil => simp only [dIx_t0, dIx_t1, dIx_l0, dIx_l1, toItems, itemsOf, runF, runL, startE, endF, endL, R.bind_ok, R.bind_exc, R.bind_stuck, gSeq, gIf, gSet, gOwn, gRet, gRetL, gRetO, gDrop, gTgt, gT, gsC, gsN, gN, gFor, gApp, gExt, gFrz, gNil, gExc, eVar, eC, e1, e2, eA, aNil, aCons, eTup, eLst, eCall, lCall, listR, eChain, tV, tAndD, tOrD, tNotD, eAnd, eOr, eNot, eIf, eL, lDisp, lList, lRep, oNone, oSome, eSl, iSeq, iRng1, iRng2, iZipD, iEnumD, iRevD, lListRange, lLc, eSorted, eSortSet, eLenSet, eBor, tBor, tYesD, noE, toB, dCmp, dSub, dNeg, dInt, dLen, dIs, dIsNot, List.map_cons, List.map_nil, List.length_cons, List.length_nil, Nat.reduceAdd, Nat.reduceSub, Nat.reduceLeDiff, List.replicate, List.cons_append, List.nil_append, List.append_nil, List.getElem?_cons_zero, List.getElem?_cons_succ, List.set_cons_zero, List.set_cons_succ, if_true, if_false, reduceIte, Bool.not_true, Bool.not_false, Bool.false_eq_true, reduceCtorEq, PyData.eqv, PyData.eqvAll, isPan, List.isEmpty_nil, Bool.false_and]
    | cons x xs =>
      simp only [dIx_t0, dIx_t1, dIx_l0, dIx_l1, toItems, itemsOf, runF, runL, startE, endF, endL, R.bind_ok, R.bind_exc, R.bind_stuck, gSeq, gIf, gSet, gOwn, gRet, gRetL, gRetO, gDrop, gTgt, gT, gsC, gsN, gN, gFor, gApp, gExt, gFrz, gNil, gExc, eVar, eC, e1, e2, eA, aNil, aCons, eTup, eLst, eCall, lCall, listR, eChain, tV, tAndD, tOrD, tNotD, eAnd, eOr, eNot, eIf, eL, lDisp, lList, lRep, oNone, oSome, eSl, iSeq, iRng1, iRng2, iZipD, iEnumD, iRevD, lListRange, lLc, eSorted, eSortSet, eLenSet, eBor, tBor, tYesD, noE, toB, dCmp, dSub, dNeg, dInt, dLen, dIs, dIsNot, List.map_cons, List.map_nil, List.length_cons, List.length_nil, Nat.reduceAdd, Nat.reduceSub, Nat.reduceLeDiff, List.replicate, List.cons_append, List.nil_append, List.append_nil, List.getElem?_cons_zero, List.getElem?_cons_succ, List.set_cons_zero, List.set_cons_succ, if_true, if_false, reduceIte, Bool.not_true, Bool.not_false, Bool.false_eq_true, reduceCtorEq, PyData.eqv, PyData.eqvAll, isPan, List.isEmpty_cons, Bool.true_and]
      obtain ⟨s2, s3, e⟩ := pan_loop m (x :: xs) (x :: xs) 0 none .no .no rfl (fun y hy => ty_of_sh (sh_of_tuple hs y hy)) (.inl ⟨rfl, rfl⟩)
      rw [e]
      cases riseD m none (x :: xs) <;> simp only [dIx_t0, dIx_t1, dIx_l0, dIx_l1, toItems, itemsOf, runF, runL, startE, endF, endL, R.bind_ok, R.bind_exc, R.bind_stuck, gSeq, gIf, gSet, gOwn, gRet, gRetL, gRetO, gDrop, gTgt, gT, gsC, gsN, gN, gFor, gApp, gExt, gFrz, gNil, gExc, eVar, eC, e1, e2, eA, aNil, aCons, eTup, eLst, eCall, lCall, listR, eChain, tV, tAndD, tOrD, tNotD, eAnd, eOr, eNot, eIf, eL, lDisp, lList, lRep, oNone, oSome, eSl, iSeq, iRng1, iRng2, iZipD, iEnumD, iRevD, lListRange, lLc, eSorted, eSortSet, eLenSet, eBor, tBor, tYesD, noE, toB, dCmp, dSub, dNeg, dInt, dLen, dIs, dIsNot, List.map_cons, List.map_nil, List.length_cons, List.length_nil, Nat.reduceAdd, Nat.reduceSub, Nat.reduceLeDiff, List.replicate, List.cons_append, List.nil_append, List.append_nil, List.getElem?_cons_zero, List.getElem?_cons_succ, List.set_cons_zero, List.set_cons_succ, if_true, if_false, reduceIte, Bool.not_true, Bool.not_false, Bool.false_eq_true, reduceCtorEq]
  all_goals simp only [dIx_t0, dIx_t1, dIx_l0, dIx_l1, toItems, itemsOf, runF, runL, startE, endF, endL, R.bind_ok, R.bind_exc, R.bind_stuck, gSeq, gIf, gSet, gOwn, gRet, gRetL, gRetO, gDrop, gTgt, gT, gsC, gsN, gN, gFor, gApp, gExt, gFrz, gNil, gExc, eVar, eC, e1, e2, eA, aNil, aCons, eTup, eLst, eCall, lCall, listR, eChain, tV, tAndD, tOrD, tNotD, eAnd, eOr, eNot, eIf, eL, lDisp, lList, lRep, oNone, oSome, eSl, iSeq, iRng1, iRng2, iZipD, iEnumD, iRevD, lListRange, lLc, eSorted, eSortSet, eLenSet, eBor, tBor, tYesD, noE, toB, dCmp, dSub, dNeg, dInt, dLen, dIs, dIsNot, List.map_cons, List.map_nil, List.length_cons, List.length_nil, Nat.reduceAdd, Nat.reduceSub, Nat.reduceLeDiff, List.replicate, List.cons_append, List.nil_append, List.append_nil, List.getElem?_cons_zero, List.getElem?_cons_succ, List.set_cons_zero, List.set_cons_succ, if_true, if_false, reduceIte, Bool.not_true, Bool.not_false, Bool.false_eq_true, reduceCtorEq, isPan]
/-! ### is_weighing -/
def apartB (xs ys : List D) : Bool := xs.all fun z => !ys.any fun y => PyData.eqv y z
def isW (m : Int) : D → Bool
  | .tuple [a, b] => isPan m a && (isPan m b && (match a, b with
    | .tuple xs, .tuple ys => decide (xs.length = ys.length) && apartB xs ys
    | _, _ => false))
  | _ => false
theorem isPan_tuple {m : Int} {a : D} (h : isPan m a = true) : ∃ xs, a = .tuple xs := by
  cases a <;> simp [isPan] at h
  exact ⟨_, rfl⟩
theorem filter_nil_all {α : Type} (p : α → Bool) (xs : List α) : (xs.filter p = []) ↔ (xs.all fun z => !p z) = true := by
  simp [List.filter_eq_nil_iff, List.all_eq_true]
theorem c_weigh (m : Int) (xs ys : List D) (t : D) (ht : t = .tuple [.tuple xs, .tuple ys]) (hx : ∀ x ∈ xs, sh 59 x) (hy : ∀ x ∈ ys, sh 59 x) (hl : xs.length ≤ 100000) :
    c_is_weighing_1 [.val (.int m), .val t, .no] = .ok (xs.filter fun z => ys.any fun y => PyData.eqv y z) := by
  subst ht
  unfold c_is_weighing_1
  simp only [dIx_t0, dIx_t1, dIx_l0, dIx_l1, toItems, itemsOf, runF, runL, startE, endF, endL, R.bind_ok, R.bind_exc, R.bind_stuck, gSeq, gIf, gSet, gOwn, gRet, gRetL, gRetO, gDrop, gTgt, gT, gsC, gsN, gN, gFor, gApp, gExt, gFrz, gNil, gExc, eVar, eC, e1, e2, eA, aNil, aCons, eTup, eLst, eCall, lCall, listR, eChain, tV, tAndD, tOrD, tNotD, eAnd, eOr, eNot, eIf, eL, lDisp, lList, lRep, oNone, oSome, eSl, iSeq, iRng1, iRng2, iZipD, iEnumD, iRevD, lListRange, lLc, eSorted, eSortSet, eLenSet, eBor, tBor, tYesD, noE, toB, dCmp, dSub, dNeg, dInt, dLen, dIs, dIsNot, List.map_cons, List.map_nil, List.length_cons, List.length_nil, Nat.reduceAdd, Nat.reduceSub, Nat.reduceLeDiff, List.replicate, List.cons_append, List.nil_append, List.append_nil, List.getElem?_cons_zero, List.getElem?_cons_succ, List.set_cons_zero, List.set_cons_succ, if_true, if_false, reduceIte, Bool.not_true, Bool.not_false, Bool.false_eq_true, reduceCtorEq]
  rw [if_pos ⟨hl, rfl⟩]
  rw [eachR_filter (p := fun z => ys.any fun y => PyData.eqv y z) (f := id)]
  · simp only [dIx_t0, dIx_t1, dIx_l0, dIx_l1, toItems, itemsOf, runF, runL, startE, endF, endL, R.bind_ok, R.bind_exc, R.bind_stuck, gSeq, gIf, gSet, gOwn, gRet, gRetL, gRetO, gDrop, gTgt, gT, gsC, gsN, gN, gFor, gApp, gExt, gFrz, gNil, gExc, eVar, eC, e1, e2, eA, aNil, aCons, eTup, eLst, eCall, lCall, listR, eChain, tV, tAndD, tOrD, tNotD, eAnd, eOr, eNot, eIf, eL, lDisp, lList, lRep, oNone, oSome, eSl, iSeq, iRng1, iRng2, iZipD, iEnumD, iRevD, lListRange, lLc, eSorted, eSortSet, eLenSet, eBor, tBor, tYesD, noE, toB, dCmp, dSub, dNeg, dInt, dLen, dIs, dIsNot, List.map_cons, List.map_nil, List.length_cons, List.length_nil, Nat.reduceAdd, Nat.reduceSub, Nat.reduceLeDiff, List.replicate, List.cons_append, List.nil_append, List.append_nil, List.getElem?_cons_zero, List.getElem?_cons_succ, List.set_cons_zero, List.set_cons_succ, if_true, if_false, reduceIte, Bool.not_true, Bool.not_false, Bool.false_eq_true, reduceCtorEq, List.map_id]
  · intro x h
    unfold lcStep wipeE
    simp only [dIx_t0, dIx_t1, dIx_l0, dIx_l1, toItems, itemsOf, runF, runL, startE, endF, endL, R.bind_ok, R.bind_exc, R.bind_stuck, gSeq, gIf, gSet, gOwn, gRet, gRetL, gRetO, gDrop, gTgt, gT, gsC, gsN, gN, gFor, gApp, gExt, gFrz, gNil, gExc, eVar, eC, e1, e2, eA, aNil, aCons, eTup, eLst, eCall, lCall, listR, eChain, tV, tAndD, tOrD, tNotD, eAnd, eOr, eNot, eIf, eL, lDisp, lList, lRep, oNone, oSome, eSl, iSeq, iRng1, iRng2, iZipD, iEnumD, iRevD, lListRange, lLc, eSorted, eSortSet, eLenSet, eBor, tBor, tYesD, noE, toB, dCmp, dSub, dNeg, dInt, dLen, dIs, dIsNot, List.map_cons, List.map_nil, List.length_cons, List.length_nil, Nat.reduceAdd, Nat.reduceSub, Nat.reduceLeDiff, List.replicate, List.cons_append, List.nil_append, List.append_nil, List.getElem?_cons_zero, List.getElem?_cons_succ, List.set_cons_zero, List.set_cons_succ, if_true, if_false, reduceIte, Bool.not_true, Bool.not_false, Bool.false_eq_true, reduceCtorEq, wipeE, dIn]
    have e : (SeqAt.shaped x && SeqAt.shaped (.tuple ys)) = true := by rw [shaped_sh (hx x h), shaped_sh (sh_tuple hy)]; rfl
    rw [if_pos e]
    simp only [dIx_t0, dIx_t1, dIx_l0, dIx_l1, toItems, itemsOf, runF, runL, startE, endF, endL, R.bind_ok, R.bind_exc, R.bind_stuck, gSeq, gIf, gSet, gOwn, gRet, gRetL, gRetO, gDrop, gTgt, gT, gsC, gsN, gN, gFor, gApp, gExt, gFrz, gNil, gExc, eVar, eC, e1, e2, eA, aNil, aCons, eTup, eLst, eCall, lCall, listR, eChain, tV, tAndD, tOrD, tNotD, eAnd, eOr, eNot, eIf, eL, lDisp, lList, lRep, oNone, oSome, eSl, iSeq, iRng1, iRng2, iZipD, iEnumD, iRevD, lListRange, lLc, eSorted, eSortSet, eLenSet, eBor, tBor, tYesD, noE, toB, dCmp, dSub, dNeg, dInt, dLen, dIs, dIsNot, List.map_cons, List.map_nil, List.length_cons, List.length_nil, Nat.reduceAdd, Nat.reduceSub, Nat.reduceLeDiff, List.replicate, List.cons_append, List.nil_append, List.append_nil, List.getElem?_cons_zero, List.getElem?_cons_succ, List.set_cons_zero, List.set_cons_succ, if_true, if_false, reduceIte, Bool.not_true, Bool.not_false, Bool.false_eq_true, reduceCtorEq, id]
    cases ys.any fun z => PyData.eqv z x <;> rfl
theorem F_is_weighing_eq (m : Int) (t : D) (h : (sh 61 t ∧ ∀ xs, t = .tuple xs → ∀ ys, .tuple ys ∈ xs → ys.length ≤ 100000) ∨ t = .dict []) : F_is_weighing [.int m, t] = .ok (.bool (isW m t)) := by
  unfold F_is_weighing g_is_weighing
  have ht : tyD t ≠ none := by
    rcases h with ⟨h, _⟩ | rfl
    · exact ty_of_sh h
    · simp [tyD]
  simp only [dIx_t0, dIx_t1, dIx_l0, dIx_l1, toItems, itemsOf, runF, runL, startE, endF, endL, R.bind_ok, R.bind_exc, R.bind_stuck, gSeq, gIf, gSet, gOwn, gRet, gRetL, gRetO, gDrop, gTgt, gT, gsC, gsN, gN, gFor, gApp, gExt, gFrz, gNil, gExc, eVar, eC, e1, e2, eA, aNil, aCons, eTup, eLst, eCall, lCall, listR, eChain, tV, tAndD, tOrD, tNotD, eAnd, eOr, eNot, eIf, eL, lDisp, lList, lRep, oNone, oSome, eSl, iSeq, iRng1, iRng2, iZipD, iEnumD, iRevD, lListRange, lLc, eSorted, eSortSet, eLenSet, eBor, tBor, tYesD, noE, toB, dCmp, dSub, dNeg, dInt, dLen, dIs, dIsNot, List.map_cons, List.map_nil, List.length_cons, List.length_nil, Nat.reduceAdd, Nat.reduceSub, Nat.reduceLeDiff, List.replicate, List.cons_append, List.nil_append, List.append_nil, List.getElem?_cons_zero, List.getElem?_cons_succ, List.set_cons_zero, List.set_cons_succ, if_true, if_false, reduceIte, Bool.not_true, Bool.not_false, Bool.false_eq_true, reduceCtorEq, isi_tuple t ht]
  cases t
  case tuple us =>
    obtain ⟨hs, hl⟩ := h.resolve_right (by simp)
    have hsu := sh_of_tuple hs
    simp only [dIx_t0, dIx_t1, dIx_l0, dIx_l1, toItems, itemsOf, runF, runL, startE, endF, endL, R.bind_ok, R.bind_exc, R.bind_stuck, gSeq, gIf, gSet, gOwn, gRet, gRetL, gRetO, gDrop, gTgt, gT, gsC, gsN, gN, gFor, gApp, gExt, gFrz, gNil, gExc, eVar, eC, e1, e2, eA, aNil, aCons, eTup, eLst, eCall, lCall, listR, eChain, tV, tAndD, tOrD, tNotD, eAnd, eOr, eNot, eIf, eL, lDisp, lList, lRep, oNone, oSome, eSl, iSeq, iRng1, iRng2, iZipD, iEnumD, iRevD, lListRange, lLc, eSorted, eSortSet, eLenSet, eBor, tBor, tYesD, noE, toB, dCmp, dSub, dNeg, dInt, dLen, dIs, dIsNot, List.map_cons, List.map_nil, List.length_cons, List.length_nil, Nat.reduceAdd, Nat.reduceSub, Nat.reduceLeDiff, List.replicate, List.cons_append, List.nil_append, List.append_nil, List.getElem?_cons_zero, List.getElem?_cons_succ, List.set_cons_zero, List.set_cons_succ, if_true, if_false, reduceIte, Bool.not_true, Bool.not_false, Bool.false_eq_true, reduceCtorEq, dNe_int]
    match us, hs, hl, hsu with
    | [], _, _, _ => simp only [dIx_t0, dIx_t1, dIx_l0, dIx_l1, toItems, itemsOf, runF, runL, startE, endF, endL, R.bind_ok, R.bind_exc, R.bind_stuck, gSeq, gIf, gSet, gOwn, gRet, gRetL, gRetO, gDrop, gTgt, gT, gsC, gsN, gN, gFor, gApp, gExt, gFrz, gNil, gExc, eVar, eC, e1, e2, eA, aNil, aCons, eTup, eLst, eCall, lCall, listR, eChain, tV, tAndD, tOrD, tNotD, eAnd, eOr, eNot, eIf, eL, lDisp, lList, lRep, oNone, oSome, eSl, iSeq, iRng1, iRng2, iZipD, iEnumD, iRevD, lListRange, lLc, eSorted, eSortSet, eLenSet, eBor, tBor, tYesD, noE, toB, dCmp, dSub, dNeg, dInt, dLen, dIs, dIsNot, List.map_cons, List.map_nil, List.length_cons, List.length_nil, Nat.reduceAdd, Nat.reduceSub, Nat.reduceLeDiff, List.replicate, List.cons_append, List.nil_append, List.append_nil, List.getElem?_cons_zero, List.getElem?_cons_succ, List.set_cons_zero, List.set_cons_succ, if_true, if_false, reduceIte, Bool.not_true, Bool.not_false, Bool.false_eq_true, reduceCtorEq, isW]; rfl
    | [_], _, _, _ => simp only [dIx_t0, dIx_t1, dIx_l0, dIx_l1, toItems, itemsOf, runF, runL, startE, endF, endL, R.bind_ok, R.bind_exc, R.bind_stuck, gSeq, gIf, gSet, gOwn, gRet, gRetL, gRetO, gDrop, gTgt, gT, gsC, gsN, gN, gFor, gApp, gExt, gFrz, gNil, gExc, eVar, eC, e1, e2, eA, aNil, aCons, eTup, eLst, eCall, lCall, listR, eChain, tV, tAndD, tOrD, tNotD, eAnd, eOr, eNot, eIf, eL, lDisp, lList, lRep, oNone, oSome, eSl, iSeq, iRng1, iRng2, iZipD, iEnumD, iRevD, lListRange, lLc, eSorted, eSortSet, eLenSet, eBor, tBor, tYesD, noE, toB, dCmp, dSub, dNeg, dInt, dLen, dIs, dIsNot, List.map_cons, List.map_nil, List.length_cons, List.length_nil, Nat.reduceAdd, Nat.reduceSub, Nat.reduceLeDiff, List.replicate, List.cons_append, List.nil_append, List.append_nil, List.getElem?_cons_zero, List.getElem?_cons_succ, List.set_cons_zero, List.set_cons_succ, if_true, if_false, reduceIte, Bool.not_true, Bool.not_false, Bool.false_eq_true, reduceCtorEq, isW]; rfl
    | _ :: _ :: _ :: r, _, _, _ =>
      have e : decide ((((r.length + 1 + 1 + 1 : Nat)) : Int) = 2) = false := decide_eq_false (by omega)
      simp only [dIx_t0, dIx_t1, dIx_l0, dIx_l1, toItems, itemsOf, runF, runL, startE, endF, endL, R.bind_ok, R.bind_exc, R.bind_stuck, gSeq, gIf, gSet, gOwn, gRet, gRetL, gRetO, gDrop, gTgt, gT, gsC, gsN, gN, gFor, gApp, gExt, gFrz, gNil, gExc, eVar, eC, e1, e2, eA, aNil, aCons, eTup, eLst, eCall, lCall, listR, eChain, tV, tAndD, tOrD, tNotD, eAnd, eOr, eNot, eIf, eL, lDisp, lList, lRep, oNone, oSome, eSl, iSeq, iRng1, iRng2, iZipD, iEnumD, iRevD, lListRange, lLc, eSorted, eSortSet, eLenSet, eBor, tBor, tYesD, noE, toB, dCmp, dSub, dNeg, dInt, dLen, dIs, dIsNot, List.map_cons, List.map_nil, List.length_cons, List.length_nil, Nat.reduceAdd, Nat.reduceSub, Nat.reduceLeDiff, List.replicate, List.cons_append, List.nil_append, List.append_nil, List.getElem?_cons_zero, List.getElem?_cons_succ, List.set_cons_zero, List.set_cons_succ, if_true, if_false, reduceIte, Bool.not_true, Bool.not_false, Bool.false_eq_true, reduceCtorEq, isW, e]
    | [a, b], hs, hl, hsu =>
      have e : decide ((((2 : Nat)) : Int) = 2) = true := by decide
      have ha := hsu a (by simp)
      have hb := hsu b (by simp)
      simp only [dIx_t0, dIx_t1, dIx_l0, dIx_l1, toItems, itemsOf, runF, runL, startE, endF, endL, R.bind_ok, R.bind_exc, R.bind_stuck, gSeq, gIf, gSet, gOwn, gRet, gRetL, gRetO, gDrop, gTgt, gT, gsC, gsN, gN, gFor, gApp, gExt, gFrz, gNil, gExc, eVar, eC, e1, e2, eA, aNil, aCons, eTup, eLst, eCall, lCall, listR, eChain, tV, tAndD, tOrD, tNotD, eAnd, eOr, eNot, eIf, eL, lDisp, lList, lRep, oNone, oSome, eSl, iSeq, iRng1, iRng2, iZipD, iEnumD, iRevD, lListRange, lLc, eSorted, eSortSet, eLenSet, eBor, tBor, tYesD, noE, toB, dCmp, dSub, dNeg, dInt, dLen, dIs, dIsNot, List.map_cons, List.map_nil, List.length_cons, List.length_nil, Nat.reduceAdd, Nat.reduceSub, Nat.reduceLeDiff, List.replicate, List.cons_append, List.nil_append, List.append_nil, List.getElem?_cons_zero, List.getElem?_cons_succ, List.set_cons_zero, List.set_cons_succ, if_true, if_false, reduceIte, Bool.not_true, Bool.not_false, Bool.false_eq_true, reduceCtorEq, e, F_is_pan_eq m a (.inl ha), F_is_pan_eq m b (.inl hb), isW]
      cases h1 : isPan m a
      · simp only [dIx_t0, dIx_t1, dIx_l0, dIx_l1, toItems, itemsOf, runF, runL, startE, endF, endL, R.bind_ok, R.bind_exc, R.bind_stuck, gSeq, gIf, gSet, gOwn, gRet, gRetL, gRetO, gDrop, gTgt, gT, gsC, gsN, gN, gFor, gApp, gExt, gFrz, gNil, gExc, eVar, eC, e1, e2, eA, aNil, aCons, eTup, eLst, eCall, lCall, listR, eChain, tV, tAndD, tOrD, tNotD, eAnd, eOr, eNot, eIf, eL, lDisp, lList, lRep, oNone, oSome, eSl, iSeq, iRng1, iRng2, iZipD, iEnumD, iRevD, lListRange, lLc, eSorted, eSortSet, eLenSet, eBor, tBor, tYesD, noE, toB, dCmp, dSub, dNeg, dInt, dLen, dIs, dIsNot, List.map_cons, List.map_nil, List.length_cons, List.length_nil, Nat.reduceAdd, Nat.reduceSub, Nat.reduceLeDiff, List.replicate, List.cons_append, List.nil_append, List.append_nil, List.getElem?_cons_zero, List.getElem?_cons_succ, List.set_cons_zero, List.set_cons_succ, if_true, if_false, reduceIte, Bool.not_true, Bool.not_false, Bool.false_eq_true, reduceCtorEq, Bool.false_and]
      · cases h2 : isPan m b
        · simp only [dIx_t0, dIx_t1, dIx_l0, dIx_l1, toItems, itemsOf, runF, runL, startE, endF, endL, R.bind_ok, R.bind_exc, R.bind_stuck, gSeq, gIf, gSet, gOwn, gRet, gRetL, gRetO, gDrop, gTgt, gT, gsC, gsN, gN, gFor, gApp, gExt, gFrz, gNil, gExc, eVar, eC, e1, e2, eA, aNil, aCons, eTup, eLst, eCall, lCall, listR, eChain, tV, tAndD, tOrD, tNotD, eAnd, eOr, eNot, eIf, eL, lDisp, lList, lRep, oNone, oSome, eSl, iSeq, iRng1, iRng2, iZipD, iEnumD, iRevD, lListRange, lLc, eSorted, eSortSet, eLenSet, eBor, tBor, tYesD, noE, toB, dCmp, dSub, dNeg, dInt, dLen, dIs, dIsNot, List.map_cons, List.map_nil, List.length_cons, List.length_nil, Nat.reduceAdd, Nat.reduceSub, Nat.reduceLeDiff, List.replicate, List.cons_append, List.nil_append, List.append_nil, List.getElem?_cons_zero, List.getElem?_cons_succ, List.set_cons_zero, List.set_cons_succ, if_true, if_false, reduceIte, Bool.not_true, Bool.not_false, Bool.false_eq_true, reduceCtorEq, Bool.false_and, Bool.and_false]
        · obtain ⟨xs, rfl⟩ := isPan_tuple h1
          obtain ⟨ys, rfl⟩ := isPan_tuple h2
          have hx := sh_of_tuple ha
          have hy := sh_of_tuple hb
          simp only [dIx_t0, dIx_t1, dIx_l0, dIx_l1, toItems, itemsOf, runF, runL, startE, endF, endL, R.bind_ok, R.bind_exc, R.bind_stuck, gSeq, gIf, gSet, gOwn, gRet, gRetL, gRetO, gDrop, gTgt, gT, gsC, gsN, gN, gFor, gApp, gExt, gFrz, gNil, gExc, eVar, eC, e1, e2, eA, aNil, aCons, eTup, eLst, eCall, lCall, listR, eChain, tV, tAndD, tOrD, tNotD, eAnd, eOr, eNot, eIf, eL, lDisp, lList, lRep, oNone, oSome, eSl, iSeq, iRng1, iRng2, iZipD, iEnumD, iRevD, lListRange, lLc, eSorted, eSortSet, eLenSet, eBor, tBor, tYesD, noE, toB, dCmp, dSub, dNeg, dInt, dLen, dIs, dIsNot, List.map_cons, List.map_nil, List.length_cons, List.length_nil, Nat.reduceAdd, Nat.reduceSub, Nat.reduceLeDiff, List.replicate, List.cons_append, List.nil_append, List.append_nil, List.getElem?_cons_zero, List.getElem?_cons_succ, List.set_cons_zero, List.set_cons_succ, if_true, if_false, reduceIte, Bool.not_true, Bool.not_false, Bool.false_eq_true, reduceCtorEq, Bool.true_and, dEq_int, c_weigh m xs ys _ rfl hx hy (hl _ rfl xs (by simp))]
          by_cases hle : xs.length = ys.length
          · have e3 : decide (((xs.length : Nat) : Int) = (ys.length : Nat)) = true := decide_eq_true (by rw [hle])
            simp only [dIx_t0, dIx_t1, dIx_l0, dIx_l1, toItems, itemsOf, runF, runL, startE, endF, endL, R.bind_ok, R.bind_exc, R.bind_stuck, gSeq, gIf, gSet, gOwn, gRet, gRetL, gRetO, gDrop, gTgt, gT, gsC, gsN, gN, gFor, gApp, gExt, gFrz, gNil, gExc, eVar, eC, e1, e2, eA, aNil, aCons, eTup, eLst, eCall, lCall, listR, eChain, tV, tAndD, tOrD, tNotD, eAnd, eOr, eNot, eIf, eL, lDisp, lList, lRep, oNone, oSome, eSl, iSeq, iRng1, iRng2, iZipD, iEnumD, iRevD, lListRange, lLc, eSorted, eSortSet, eLenSet, eBor, tBor, tYesD, noE, toB, dCmp, dSub, dNeg, dInt, dLen, dIs, dIsNot, List.map_cons, List.map_nil, List.length_cons, List.length_nil, Nat.reduceAdd, Nat.reduceSub, Nat.reduceLeDiff, List.replicate, List.cons_append, List.nil_append, List.append_nil, List.getElem?_cons_zero, List.getElem?_cons_succ, List.set_cons_zero, List.set_cons_succ, if_true, if_false, reduceIte, Bool.not_true, Bool.not_false, Bool.false_eq_true, reduceCtorEq, e3, decide_eq_true hle, Bool.true_and]
            have hf : ∀ z ∈ xs.filter (fun z => ys.any fun y => PyData.eqv y z), sh 59 z := fun z hz => hx z (List.mem_filter.mp hz).1
            rw [dEq_sh (sh_list hf) (sh_list (n := 1) (xs := []) (by simp))]
            simp only [dIx_t0, dIx_t1, dIx_l0, dIx_l1, toItems, itemsOf, runF, runL, startE, endF, endL, R.bind_ok, R.bind_exc, R.bind_stuck, gSeq, gIf, gSet, gOwn, gRet, gRetL, gRetO, gDrop, gTgt, gT, gsC, gsN, gN, gFor, gApp, gExt, gFrz, gNil, gExc, eVar, eC, e1, e2, eA, aNil, aCons, eTup, eLst, eCall, lCall, listR, eChain, tV, tAndD, tOrD, tNotD, eAnd, eOr, eNot, eIf, eL, lDisp, lList, lRep, oNone, oSome, eSl, iSeq, iRng1, iRng2, iZipD, iEnumD, iRevD, lListRange, lLc, eSorted, eSortSet, eLenSet, eBor, tBor, tYesD, noE, toB, dCmp, dSub, dNeg, dInt, dLen, dIs, dIsNot, List.map_cons, List.map_nil, List.length_cons, List.length_nil, Nat.reduceAdd, Nat.reduceSub, Nat.reduceLeDiff, List.replicate, List.cons_append, List.nil_append, List.append_nil, List.getElem?_cons_zero, List.getElem?_cons_succ, List.set_cons_zero, List.set_cons_succ, if_true, if_false, reduceIte, Bool.not_true, Bool.not_false, Bool.false_eq_true, reduceCtorEq]
            have e4 : PyData.eqv (.list (xs.filter fun z => ys.any fun y => PyData.eqv y z)) (.list []) = apartB xs ys := by
              unfold apartB
              rw [Bool.eq_iff_iff, ← filter_nil_all]
              cases xs.filter fun z => ys.any fun y => PyData.eqv y z <;> simp [PyData.eqv, PyData.eqvAll]
            rw [e4]
          · have e3 : decide (((xs.length : Nat) : Int) = (ys.length : Nat)) = false := decide_eq_false (by omega)
            simp only [dIx_t0, dIx_t1, dIx_l0, dIx_l1, toItems, itemsOf, runF, runL, startE, endF, endL, R.bind_ok, R.bind_exc, R.bind_stuck, gSeq, gIf, gSet, gOwn, gRet, gRetL, gRetO, gDrop, gTgt, gT, gsC, gsN, gN, gFor, gApp, gExt, gFrz, gNil, gExc, eVar, eC, e1, e2, eA, aNil, aCons, eTup, eLst, eCall, lCall, listR, eChain, tV, tAndD, tOrD, tNotD, eAnd, eOr, eNot, eIf, eL, lDisp, lList, lRep, oNone, oSome, eSl, iSeq, iRng1, iRng2, iZipD, iEnumD, iRevD, lListRange, lLc, eSorted, eSortSet, eLenSet, eBor, tBor, tYesD, noE, toB, dCmp, dSub, dNeg, dInt, dLen, dIs, dIsNot, List.map_cons, List.map_nil, List.length_cons, List.length_nil, Nat.reduceAdd, Nat.reduceSub, Nat.reduceLeDiff, List.replicate, List.cons_append, List.nil_append, List.append_nil, List.getElem?_cons_zero, List.getElem?_cons_succ, List.set_cons_zero, List.set_cons_succ, if_true, if_false, reduceIte, Bool.not_true, Bool.not_false, Bool.false_eq_true, reduceCtorEq, e3, decide_eq_false hle, Bool.false_and]
  all_goals simp only [dIx_t0, dIx_t1, dIx_l0, dIx_l1, toItems, itemsOf, runF, runL, startE, endF, endL, R.bind_ok, R.bind_exc, R.bind_stuck, gSeq, gIf, gSet, gOwn, gRet, gRetL, gRetO, gDrop, gTgt, gT, gsC, gsN, gN, gFor, gApp, gExt, gFrz, gNil, gExc, eVar, eC, e1, e2, eA, aNil, aCons, eTup, eLst, eCall, lCall, listR, eChain, tV, tAndD, tOrD, tNotD, eAnd, eOr, eNot, eIf, eL, lDisp, lList, lRep, oNone, oSome, eSl, iSeq, iRng1, iRng2, iZipD, iEnumD, iRevD, lListRange, lLc, eSorted, eSortSet, eLenSet, eBor, tBor, tYesD, noE, toB, dCmp, dSub, dNeg, dInt, dLen, dIs, dIsNot, List.map_cons, List.map_nil, List.length_cons, List.length_nil, Nat.reduceAdd, Nat.reduceSub, Nat.reduceLeDiff, List.replicate, List.cons_append, List.nil_append, List.append_nil, List.getElem?_cons_zero, List.getElem?_cons_succ, List.set_cons_zero, List.set_cons_succ, if_true, if_false, reduceIte, Bool.not_true, Bool.not_false, Bool.false_eq_true, reduceCtorEq, isW]
end W

set_option Elab.async false
set_option linter.all false
set_option maxRecDepth 100000
set_option maxHeartbeats 1000000
namespace W
open PySem PL
/-! ### the law's own look at a weighing -/
theorem rise_pair (m : Int) : ∀ (ns : List Int) (p : Option Int), (∀ z ∈ ns, amongB 0 (m - 1) (.int z) = true) → (riseD m p (ns.map PyData.int) = true ↔ ns.Pairwise (· < ·) ∧ ∀ q, p = some q → ∀ z, ns.head? = some z → q < z)
  | [], p, _ => by simp [riseD]
  | z :: r, p, h => by
    have hz := h z (List.mem_cons_self ..)
    rw [List.map_cons, riseD_eq]
    unfold riseD_cons
    rw [hz]
    simp only [Bool.true_and, Bool.and_eq_true]
    rw [rise_pair m r (some z) fun y hy => h y (List.mem_cons_of_mem _ hy)]
    constructor
    · rintro ⟨h1, h2, h3⟩
      refine ⟨List.pairwise_cons.mpr ⟨fun y hy => ?_, h2⟩, fun q hq y hy => ?_⟩
      · cases r with
        | nil => simp at hy
        | cons y0 r =>
          have h4 := h3 z rfl y0 rfl
          rcases List.mem_cons.mp hy with rfl | hy
          · exact h4
          · exact Int.lt_trans h4 ((List.pairwise_cons.mp h2).1 y hy)
      · subst hq
        simp at hy
        subst hy
        simpa [ltO] using h1
    · rintro ⟨h1, h2⟩
      have h3 := List.pairwise_cons.mp h1
      refine ⟨?_, h3.2, fun q hq y hy => ?_⟩
      · cases p with
        | none => rfl
        | some q => simpa [ltO] using h2 q rfl z rfl
      · cases hq
        cases r with
        | nil => simp at hy
        | cons y0 r =>
          simp at hy
          subst hy
          exact h3.1 _ (List.mem_cons_self ..)
theorem distI_fix {ns : List Int} : ns = distI ns ↔ ns.Pairwise (· < ·) := by
  constructor
  · intro h
    rw [h]
    exact distI_up ns
  · intro h
    exact up_unique h (distI_up ns) fun z => by rw [distI_mem]
theorem rise_all {m : Int} : ∀ {xs : List D} {p : Option Int}, riseD m p xs = true → xs.all (amongB 0 (m - 1)) = true
  | [], _, _ => rfl
  | x :: xs, p, h => by
    rw [riseD_eq] at h
    unfold riseD_cons at h
    simp only [Bool.and_eq_true] at h
    cases x with
    | int z => rw [List.all_cons, h.1.1, rise_all h.2]; rfl
    | _ => simp [amongB] at h
theorem isPan_ints {m : Int} {xs : List D} (h : isPan m (.tuple xs) = true) : ∃ ns : List Int, xs = ns.map PyData.int ∧ ns.Pairwise (· < ·) ∧ ns ≠ [] ∧ ∀ z ∈ ns, 0 ≤ z ∧ z < m := by
  simp only [isPan, Bool.and_eq_true, Bool.not_eq_true'] at h
  obtain ⟨ns, rfl, hn'⟩ := all_among (rise_all h.2)
  have hn : ∀ z ∈ ns, amongB 0 (m - 1) (.int z) = true := fun z hz => by simp only [amongB, Bool.and_eq_true, decide_eq_true_eq]; exact hn' z hz
  refine ⟨ns, rfl, ((rise_pair m ns none hn).mp h.2).1, fun e => by subst e; simp at h, fun z hz => ?_⟩
  have := hn z hz
  simp only [amongB, Bool.and_eq_true, decide_eq_true_eq] at this
  omega
theorem apart_ints (a b : List Int) : apartB (a.map PyData.int) (b.map PyData.int) = true ↔ ∀ z ∈ a, z ∉ b := by
  unfold apartB
  simp only [List.all_map, List.any_map, List.all_eq_true, Function.comp_def, Bool.not_eq_true', List.any_eq_false]
  constructor
  · intro h z hz hb
    exact h z hz z hb (by simp [PyData.eqv])
  · intro h z hz y hy e
    have e' : y = z := by simpa [PyData.eqv] using e
    exact h z hz (e' ▸ hy)
theorem insU_len (x : Int) : ∀ {l : List Int}, l.Pairwise (· < ·) → (insU x l).length = if x ∈ l then l.length else l.length + 1
  | [], _ => by simp [insU]
  | y :: r, h => by
    have h2 := List.pairwise_cons.mp h
    unfold insU
    by_cases h1 : x < y
    · have nm : x ∉ y :: r := fun hm => by
        rcases List.mem_cons.mp hm with rfl | hm
        · omega
        · have := h2.1 x hm; omega
      rw [if_pos h1, if_neg nm]
      rfl
    · rw [if_neg h1]
      by_cases h3 : x = y
      · subst h3
        simp
      · rw [if_neg h3, List.length_cons, insU_len x h2.2]
        have e : (x ∈ y :: r) ↔ x ∈ r := by rw [List.mem_cons]; exact ⟨fun h => h.resolve_left h3, .inr⟩
        by_cases h4 : x ∈ r
        · rw [if_pos h4, if_pos (e.mpr h4)]; rfl
        · rw [if_neg h4, if_neg (fun z => h4 (e.mp z))]; rfl
theorem distI_le : ∀ l : List Int, (distI l).length ≤ l.length
  | [] => Nat.le_refl _
  | x :: r => by
    have := distI_le r
    unfold distI
    rw [insU_len x (distI_up r), List.length_cons]
    split <;> omega
theorem nodup_dist : ∀ {l : List Int}, (distI l).length = l.length ↔ l.Nodup
  | [] => by simp [distI]
  | x :: r => by
    have h1 := distI_le r
    have ih := nodup_dist (l := r)
    rw [List.nodup_cons, ← ih]
    rw [show distI (x :: r) = insU x (distI r) from rfl, insU_len x (distI_up r), List.length_cons]
    by_cases h : x ∈ r
    · rw [if_pos (distI_mem.mpr h)]
      exact ⟨fun e => absurd e (by omega), fun e => absurd h e.1⟩
    · rw [if_neg (fun z => h (distI_mem.mp z))]
      exact ⟨fun e => ⟨h, by omega⟩, fun e => by omega⟩
end W

set_option Elab.async false
set_option linter.all false
set_option maxRecDepth 100000
set_option maxHeartbeats 1000000
namespace W
open PySem PL
theorem c_pan (m : Int) (xs : List D) (hx : ∀ x ∈ xs, sh 59 x) (hl : xs.length ≤ 100000) : c__law_is_pan_1 [.val (.int m), .val (.tuple xs), .no] = .ok (xs.map fun x => .bool (amongB 0 (m - 1) x)) := by
  unfold c__law_is_pan_1
  simp only [dIx_t0, dIx_t1, dIx_l0, dIx_l1, toItems, itemsOf, runF, runL, startE, endF, endL, R.bind_ok, R.bind_exc, R.bind_stuck, gSeq, gIf, gSet, gOwn, gRet, gRetL, gRetO, gDrop, gTgt, gT, gsC, gsN, gN, gFor, gApp, gExt, gFrz, gNil, gExc, eVar, eC, e1, e2, eA, aNil, aCons, eTup, eLst, eCall, lCall, listR, eChain, tV, tAndD, tOrD, tNotD, eAnd, eOr, eNot, eIf, eL, lDisp, lList, lRep, oNone, oSome, eSl, iSeq, iRng1, iRng2, iZipD, iEnumD, iRevD, lListRange, lLc, eSorted, eSortSet, eLenSet, eBor, tBor, tYesD, noE, toB, dCmp, dSub, dNeg, dInt, dLen, dIs, dIsNot, List.map_cons, List.map_nil, List.length_cons, List.length_nil, Nat.reduceAdd, Nat.reduceSub, Nat.reduceLeDiff, List.replicate, List.cons_append, List.nil_append, List.append_nil, List.getElem?_cons_zero, List.getElem?_cons_succ, List.set_cons_zero, List.set_cons_succ, if_true, if_false, reduceIte, Bool.not_true, Bool.not_false, Bool.false_eq_true, reduceCtorEq]
  rw [if_pos ⟨hl, rfl⟩]
  rw [eachR_map (f := fun x => .bool (amongB 0 (m - 1) x))]
  intro x h
  unfold lcStep
  simp only [dIx_t0, dIx_t1, dIx_l0, dIx_l1, toItems, itemsOf, runF, runL, startE, endF, endL, R.bind_ok, R.bind_exc, R.bind_stuck, gSeq, gIf, gSet, gOwn, gRet, gRetL, gRetO, gDrop, gTgt, gT, gsC, gsN, gN, gFor, gApp, gExt, gFrz, gNil, gExc, eVar, eC, e1, e2, eA, aNil, aCons, eTup, eLst, eCall, lCall, listR, eChain, tV, tAndD, tOrD, tNotD, eAnd, eOr, eNot, eIf, eL, lDisp, lList, lRep, oNone, oSome, eSl, iSeq, iRng1, iRng2, iZipD, iEnumD, iRevD, lListRange, lLc, eSorted, eSortSet, eLenSet, eBor, tBor, tYesD, noE, toB, dCmp, dSub, dNeg, dInt, dLen, dIs, dIsNot, List.map_cons, List.map_nil, List.length_cons, List.length_nil, Nat.reduceAdd, Nat.reduceSub, Nat.reduceLeDiff, List.replicate, List.cons_append, List.nil_append, List.append_nil, List.getElem?_cons_zero, List.getElem?_cons_succ, List.set_cons_zero, List.set_cons_succ, if_true, if_false, reduceIte, Bool.not_true, Bool.not_false, Bool.false_eq_true, reduceCtorEq, wipeE, F__law_whole_eq x (ty_of_sh (hx x h))]
  cases x
  case int z =>
    by_cases h0 : 0 ≤ z
    · have e : decide (z < m) = decide (z ≤ m - 1) := by rw [decide_eq_decide]; omega
      simp only [dIx_t0, dIx_t1, dIx_l0, dIx_l1, toItems, itemsOf, runF, runL, startE, endF, endL, R.bind_ok, R.bind_exc, R.bind_stuck, gSeq, gIf, gSet, gOwn, gRet, gRetL, gRetO, gDrop, gTgt, gT, gsC, gsN, gN, gFor, gApp, gExt, gFrz, gNil, gExc, eVar, eC, e1, e2, eA, aNil, aCons, eTup, eLst, eCall, lCall, listR, eChain, tV, tAndD, tOrD, tNotD, eAnd, eOr, eNot, eIf, eL, lDisp, lList, lRep, oNone, oSome, eSl, iSeq, iRng1, iRng2, iZipD, iEnumD, iRevD, lListRange, lLc, eSorted, eSortSet, eLenSet, eBor, tBor, tYesD, noE, toB, dCmp, dSub, dNeg, dInt, dLen, dIs, dIsNot, List.map_cons, List.map_nil, List.length_cons, List.length_nil, Nat.reduceAdd, Nat.reduceSub, Nat.reduceLeDiff, List.replicate, List.cons_append, List.nil_append, List.append_nil, List.getElem?_cons_zero, List.getElem?_cons_succ, List.set_cons_zero, List.set_cons_succ, if_true, if_false, reduceIte, Bool.not_true, Bool.not_false, Bool.false_eq_true, reduceCtorEq, decide_eq_true h0, amongB, Bool.true_and, e]
    · simp only [dIx_t0, dIx_t1, dIx_l0, dIx_l1, toItems, itemsOf, runF, runL, startE, endF, endL, R.bind_ok, R.bind_exc, R.bind_stuck, gSeq, gIf, gSet, gOwn, gRet, gRetL, gRetO, gDrop, gTgt, gT, gsC, gsN, gN, gFor, gApp, gExt, gFrz, gNil, gExc, eVar, eC, e1, e2, eA, aNil, aCons, eTup, eLst, eCall, lCall, listR, eChain, tV, tAndD, tOrD, tNotD, eAnd, eOr, eNot, eIf, eL, lDisp, lList, lRep, oNone, oSome, eSl, iSeq, iRng1, iRng2, iZipD, iEnumD, iRevD, lListRange, lLc, eSorted, eSortSet, eLenSet, eBor, tBor, tYesD, noE, toB, dCmp, dSub, dNeg, dInt, dLen, dIs, dIsNot, List.map_cons, List.map_nil, List.length_cons, List.length_nil, Nat.reduceAdd, Nat.reduceSub, Nat.reduceLeDiff, List.replicate, List.cons_append, List.nil_append, List.append_nil, List.getElem?_cons_zero, List.getElem?_cons_succ, List.set_cons_zero, List.set_cons_succ, if_true, if_false, reduceIte, Bool.not_true, Bool.not_false, Bool.false_eq_true, reduceCtorEq, decide_eq_false h0, amongB, Bool.false_and]
  all_goals simp only [dIx_t0, dIx_t1, dIx_l0, dIx_l1, toItems, itemsOf, runF, runL, startE, endF, endL, R.bind_ok, R.bind_exc, R.bind_stuck, gSeq, gIf, gSet, gOwn, gRet, gRetL, gRetO, gDrop, gTgt, gT, gsC, gsN, gN, gFor, gApp, gExt, gFrz, gNil, gExc, eVar, eC, e1, e2, eA, aNil, aCons, eTup, eLst, eCall, lCall, listR, eChain, tV, tAndD, tOrD, tNotD, eAnd, eOr, eNot, eIf, eL, lDisp, lList, lRep, oNone, oSome, eSl, iSeq, iRng1, iRng2, iZipD, iEnumD, iRevD, lListRange, lLc, eSorted, eSortSet, eLenSet, eBor, tBor, tYesD, noE, toB, dCmp, dSub, dNeg, dInt, dLen, dIs, dIsNot, List.map_cons, List.map_nil, List.length_cons, List.length_nil, Nat.reduceAdd, Nat.reduceSub, Nat.reduceLeDiff, List.replicate, List.cons_append, List.nil_append, List.append_nil, List.getElem?_cons_zero, List.getElem?_cons_succ, List.set_cons_zero, List.set_cons_succ, if_true, if_false, reduceIte, Bool.not_true, Bool.not_false, Bool.false_eq_true, reduceCtorEq, amongB]
theorem F__law_is_pan_eq (m : Int) (t : D) (h : (sh 60 t ∧ ∀ xs, t = .tuple xs → xs.length ≤ 60) ∨ t = .dict []) : F__law_is_pan [.int m, t] = .ok (.bool (isPan m t)) := by
  unfold F__law_is_pan g__law_is_pan
  have ht : tyD t ≠ none := by
    rcases h with h | rfl
    · exact ty_of_sh h.1
    · simp [tyD]
  simp only [dIx_t0, dIx_t1, dIx_l0, dIx_l1, toItems, itemsOf, runF, runL, startE, endF, endL, R.bind_ok, R.bind_exc, R.bind_stuck, gSeq, gIf, gSet, gOwn, gRet, gRetL, gRetO, gDrop, gTgt, gT, gsC, gsN, gN, gFor, gApp, gExt, gFrz, gNil, gExc, eVar, eC, e1, e2, eA, aNil, aCons, eTup, eLst, eCall, lCall, listR, eChain, tV, tAndD, tOrD, tNotD, eAnd, eOr, eNot, eIf, eL, lDisp, lList, lRep, oNone, oSome, eSl, iSeq, iRng1, iRng2, iZipD, iEnumD, iRevD, lListRange, lLc, eSorted, eSortSet, eLenSet, eBor, tBor, tYesD, noE, toB, dCmp, dSub, dNeg, dInt, dLen, dIs, dIsNot, List.map_cons, List.map_nil, List.length_cons, List.length_nil, Nat.reduceAdd, Nat.reduceSub, Nat.reduceLeDiff, List.replicate, List.cons_append, List.nil_append, List.append_nil, List.getElem?_cons_zero, List.getElem?_cons_succ, List.set_cons_zero, List.set_cons_succ, if_true, if_false, reduceIte, Bool.not_true, Bool.not_false, Bool.false_eq_true, reduceCtorEq, isi_tuple t ht]
  cases t
  case tuple xs =>
    obtain ⟨hs, hl⟩ := h.resolve_right (by simp)
    have hl := hl xs rfl
    simp only [dIx_t0, dIx_t1, dIx_l0, dIx_l1, toItems, itemsOf, runF, runL, startE, endF, endL, R.bind_ok, R.bind_exc, R.bind_stuck, gSeq, gIf, gSet, gOwn, gRet, gRetL, gRetO, gDrop, gTgt, gT, gsC, gsN, gN, gFor, gApp, gExt, gFrz, gNil, gExc, eVar, eC, e1, e2, eA, aNil, aCons, eTup, eLst, eCall, lCall, listR, eChain, tV, tAndD, tOrD, tNotD, eAnd, eOr, eNot, eIf, eL, lDisp, lList, lRep, oNone, oSome, eSl, iSeq, iRng1, iRng2, iZipD, iEnumD, iRevD, lListRange, lLc, eSorted, eSortSet, eLenSet, eBor, tBor, tYesD, noE, toB, dCmp, dSub, dNeg, dInt, dLen, dIs, dIsNot, List.map_cons, List.map_nil, List.length_cons, List.length_nil, Nat.reduceAdd, Nat.reduceSub, Nat.reduceLeDiff, List.replicate, List.cons_append, List.nil_append, List.append_nil, List.getElem?_cons_zero, List.getElem?_cons_succ, List.set_cons_zero, List.set_cons_succ, if_true, if_false, reduceIte, Bool.not_true, Bool.not_false, Bool.false_eq_true, reduceCtorEq, dEq_sh hs (sh_tuple (n := 1) (xs := []) (by simp))]
    have hx := sh_of_tuple hs
    by_cases hne : xs = []
    · subst hne
      simp only [dIx_t0, dIx_t1, dIx_l0, dIx_l1, toItems, itemsOf, runF, runL, startE, endF, endL, R.bind_ok, R.bind_exc, R.bind_stuck, gSeq, gIf, gSet, gOwn, gRet, gRetL, gRetO, gDrop, gTgt, gT, gsC, gsN, gN, gFor, gApp, gExt, gFrz, gNil, gExc, eVar, eC, e1, e2, eA, aNil, aCons, eTup, eLst, eCall, lCall, listR, eChain, tV, tAndD, tOrD, tNotD, eAnd, eOr, eNot, eIf, eL, lDisp, lList, lRep, oNone, oSome, eSl, iSeq, iRng1, iRng2, iZipD, iEnumD, iRevD, lListRange, lLc, eSorted, eSortSet, eLenSet, eBor, tBor, tYesD, noE, toB, dCmp, dSub, dNeg, dInt, dLen, dIs, dIsNot, List.map_cons, List.map_nil, List.length_cons, List.length_nil, Nat.reduceAdd, Nat.reduceSub, Nat.reduceLeDiff, List.replicate, List.cons_append, List.nil_append, List.append_nil, List.getElem?_cons_zero, List.getElem?_cons_succ, List.set_cons_zero, List.set_cons_succ, if_true, if_false, reduceIte, Bool.not_true, Bool.not_false, Bool.false_eq_true, reduceCtorEq, PyData.eqv, PyData.eqvAll, isPan, List.isEmpty_nil, Bool.false_and]
    · have e1 : PyData.eqv (.tuple xs) (.tuple []) = false := by cases xs <;> simp [PyData.eqv, PyData.eqvAll] at hne ⊢
      have e2 : xs.isEmpty = false := by cases xs <;> simp at hne ⊢
      simp only [dIx_t0, dIx_t1, dIx_l0, dIx_l1, toItems, itemsOf, runF, runL, startE, endF, endL, R.bind_ok, R.bind_exc, R.bind_stuck, gSeq, gIf, gSet, gOwn, gRet, gRetL, gRetO, gDrop, gTgt, gT, gsC, gsN, gN, gFor, gApp, gExt, gFrz, gNil, gExc, eVar, eC, e1, e2, eA, aNil, aCons, eTup, eLst, eCall, lCall, listR, eChain, tV, tAndD, tOrD, tNotD, eAnd, eOr, eNot, eIf, eL, lDisp, lList, lRep, oNone, oSome, eSl, iSeq, iRng1, iRng2, iZipD, iEnumD, iRevD, lListRange, lLc, eSorted, eSortSet, eLenSet, eBor, tBor, tYesD, noE, toB, dCmp, dSub, dNeg, dInt, dLen, dIs, dIsNot, List.map_cons, List.map_nil, List.length_cons, List.length_nil, Nat.reduceAdd, Nat.reduceSub, Nat.reduceLeDiff, List.replicate, List.cons_append, List.nil_append, List.append_nil, List.getElem?_cons_zero, List.getElem?_cons_succ, List.set_cons_zero, List.set_cons_succ, if_true, if_false, reduceIte, Bool.not_true, Bool.not_false, Bool.false_eq_true, reduceCtorEq, e1, e2, c_pan m _ hx (by omega), map_bool_all, isPan, Bool.true_and]
      cases ha : xs.all (amongB 0 (m - 1))
      · simp only [dIx_t0, dIx_t1, dIx_l0, dIx_l1, toItems, itemsOf, runF, runL, startE, endF, endL, R.bind_ok, R.bind_exc, R.bind_stuck, gSeq, gIf, gSet, gOwn, gRet, gRetL, gRetO, gDrop, gTgt, gT, gsC, gsN, gN, gFor, gApp, gExt, gFrz, gNil, gExc, eVar, eC, e1, e2, eA, aNil, aCons, eTup, eLst, eCall, lCall, listR, eChain, tV, tAndD, tOrD, tNotD, eAnd, eOr, eNot, eIf, eL, lDisp, lList, lRep, oNone, oSome, eSl, iSeq, iRng1, iRng2, iZipD, iEnumD, iRevD, lListRange, lLc, eSorted, eSortSet, eLenSet, eBor, tBor, tYesD, noE, toB, dCmp, dSub, dNeg, dInt, dLen, dIs, dIsNot, List.map_cons, List.map_nil, List.length_cons, List.length_nil, Nat.reduceAdd, Nat.reduceSub, Nat.reduceLeDiff, List.replicate, List.cons_append, List.nil_append, List.append_nil, List.getElem?_cons_zero, List.getElem?_cons_succ, List.set_cons_zero, List.set_cons_succ, if_true, if_false, reduceIte, Bool.not_true, Bool.not_false, Bool.false_eq_true, reduceCtorEq]
        cases hr : riseD m none xs
        · rfl
        · rw [rise_all hr] at ha; cases ha
      · simp only [dIx_t0, dIx_t1, dIx_l0, dIx_l1, toItems, itemsOf, runF, runL, startE, endF, endL, R.bind_ok, R.bind_exc, R.bind_stuck, gSeq, gIf, gSet, gOwn, gRet, gRetL, gRetO, gDrop, gTgt, gT, gsC, gsN, gN, gFor, gApp, gExt, gFrz, gNil, gExc, eVar, eC, e1, e2, eA, aNil, aCons, eTup, eLst, eCall, lCall, listR, eChain, tV, tAndD, tOrD, tNotD, eAnd, eOr, eNot, eIf, eL, lDisp, lList, lRep, oNone, oSome, eSl, iSeq, iRng1, iRng2, iZipD, iEnumD, iRevD, lListRange, lLc, eSorted, eSortSet, eLenSet, eBor, tBor, tYesD, noE, toB, dCmp, dSub, dNeg, dInt, dLen, dIs, dIsNot, List.map_cons, List.map_nil, List.length_cons, List.length_nil, Nat.reduceAdd, Nat.reduceSub, Nat.reduceLeDiff, List.replicate, List.cons_append, List.nil_append, List.append_nil, List.getElem?_cons_zero, List.getElem?_cons_succ, List.set_cons_zero, List.set_cons_succ, if_true, if_false, reduceIte, Bool.not_true, Bool.not_false, Bool.false_eq_true, reduceCtorEq]
        obtain ⟨ns, rfl, hn'⟩ := all_among ha
        have hn : ∀ z ∈ ns, amongB 0 (m - 1) (.int z) = true := fun z hz => by simp only [amongB, Bool.and_eq_true, decide_eq_true_eq]; exact hn' z hz
        rw [List.length_map] at hl
        simp only [dIx_t0, dIx_t1, dIx_l0, dIx_l1, toItems, itemsOf, runF, runL, startE, endF, endL, R.bind_ok, R.bind_exc, R.bind_stuck, gSeq, gIf, gSet, gOwn, gRet, gRetL, gRetO, gDrop, gTgt, gT, gsC, gsN, gN, gFor, gApp, gExt, gFrz, gNil, gExc, eVar, eC, e1, e2, eA, aNil, aCons, eTup, eLst, eCall, lCall, listR, eChain, tV, tAndD, tOrD, tNotD, eAnd, eOr, eNot, eIf, eL, lDisp, lList, lRep, oNone, oSome, eSl, iSeq, iRng1, iRng2, iZipD, iEnumD, iRevD, lListRange, lLc, eSorted, eSortSet, eLenSet, eBor, tBor, tYesD, noE, toB, dCmp, dSub, dNeg, dInt, dLen, dIs, dIsNot, List.map_cons, List.map_nil, List.length_cons, List.length_nil, Nat.reduceAdd, Nat.reduceSub, Nat.reduceLeDiff, List.replicate, List.cons_append, List.nil_append, List.append_nil, List.getElem?_cons_zero, List.getElem?_cons_succ, List.set_cons_zero, List.set_cons_succ, if_true, if_false, reduceIte, Bool.not_true, Bool.not_false, Bool.false_eq_true, reduceCtorEq, dList, setInts, intsOf_map, hl]
        rw [dEq_ex (sh_list (n := 1) (sh_ints _)) (sh_list (n := 1) (sh_ints _)) (by simpa [exact] using exact_ints _) (by simpa [exact] using exact_ints _) (b := riseD m none (ns.map PyData.int))]
        · simp only [dIx_t0, dIx_t1, dIx_l0, dIx_l1, toItems, itemsOf, runF, runL, startE, endF, endL, R.bind_ok, R.bind_exc, R.bind_stuck, gSeq, gIf, gSet, gOwn, gRet, gRetL, gRetO, gDrop, gTgt, gT, gsC, gsN, gN, gFor, gApp, gExt, gFrz, gNil, gExc, eVar, eC, e1, e2, eA, aNil, aCons, eTup, eLst, eCall, lCall, listR, eChain, tV, tAndD, tOrD, tNotD, eAnd, eOr, eNot, eIf, eL, lDisp, lList, lRep, oNone, oSome, eSl, iSeq, iRng1, iRng2, iZipD, iEnumD, iRevD, lListRange, lLc, eSorted, eSortSet, eLenSet, eBor, tBor, tYesD, noE, toB, dCmp, dSub, dNeg, dInt, dLen, dIs, dIsNot, List.map_cons, List.map_nil, List.length_cons, List.length_nil, Nat.reduceAdd, Nat.reduceSub, Nat.reduceLeDiff, List.replicate, List.cons_append, List.nil_append, List.append_nil, List.getElem?_cons_zero, List.getElem?_cons_succ, List.set_cons_zero, List.set_cons_succ, if_true, if_false, reduceIte, Bool.not_true, Bool.not_false, Bool.false_eq_true, reduceCtorEq]
        · rw [PyData.list.injEq, map_int_inj, rise_pair m ns none hn, distI_fix]
          simp
  all_goals simp only [dIx_t0, dIx_t1, dIx_l0, dIx_l1, toItems, itemsOf, runF, runL, startE, endF, endL, R.bind_ok, R.bind_exc, R.bind_stuck, gSeq, gIf, gSet, gOwn, gRet, gRetL, gRetO, gDrop, gTgt, gT, gsC, gsN, gN, gFor, gApp, gExt, gFrz, gNil, gExc, eVar, eC, e1, e2, eA, aNil, aCons, eTup, eLst, eCall, lCall, listR, eChain, tV, tAndD, tOrD, tNotD, eAnd, eOr, eNot, eIf, eL, lDisp, lList, lRep, oNone, oSome, eSl, iSeq, iRng1, iRng2, iZipD, iEnumD, iRevD, lListRange, lLc, eSorted, eSortSet, eLenSet, eBor, tBor, tYesD, noE, toB, dCmp, dSub, dNeg, dInt, dLen, dIs, dIsNot, List.map_cons, List.map_nil, List.length_cons, List.length_nil, Nat.reduceAdd, Nat.reduceSub, Nat.reduceLeDiff, List.replicate, List.cons_append, List.nil_append, List.append_nil, List.getElem?_cons_zero, List.getElem?_cons_succ, List.set_cons_zero, List.set_cons_succ, if_true, if_false, reduceIte, Bool.not_true, Bool.not_false, Bool.false_eq_true, reduceCtorEq, isPan]
theorem F__law_is_weighing_eq (m : Int) (t : D) (h : (sh 61 t ∧ ∀ xs, t = .tuple xs → ∀ ys, .tuple ys ∈ xs → ys.length ≤ 30) ∨ t = .dict []) : F__law_is_weighing [.int m, t] = .ok (.bool (isW m t)) := by
  unfold F__law_is_weighing g__law_is_weighing
  have ht : tyD t ≠ none := by
    rcases h with ⟨h, _⟩ | rfl
    · exact ty_of_sh h
    · simp [tyD]
  simp only [dIx_t0, dIx_t1, dIx_l0, dIx_l1, toItems, itemsOf, runF, runL, startE, endF, endL, R.bind_ok, R.bind_exc, R.bind_stuck, gSeq, gIf, gSet, gOwn, gRet, gRetL, gRetO, gDrop, gTgt, gT, gsC, gsN, gN, gFor, gApp, gExt, gFrz, gNil, gExc, eVar, eC, e1, e2, eA, aNil, aCons, eTup, eLst, eCall, lCall, listR, eChain, tV, tAndD, tOrD, tNotD, eAnd, eOr, eNot, eIf, eL, lDisp, lList, lRep, oNone, oSome, eSl, iSeq, iRng1, iRng2, iZipD, iEnumD, iRevD, lListRange, lLc, eSorted, eSortSet, eLenSet, eBor, tBor, tYesD, noE, toB, dCmp, dSub, dNeg, dInt, dLen, dIs, dIsNot, List.map_cons, List.map_nil, List.length_cons, List.length_nil, Nat.reduceAdd, Nat.reduceSub, Nat.reduceLeDiff, List.replicate, List.cons_append, List.nil_append, List.append_nil, List.getElem?_cons_zero, List.getElem?_cons_succ, List.set_cons_zero, List.set_cons_succ, if_true, if_false, reduceIte, Bool.not_true, Bool.not_false, Bool.false_eq_true, reduceCtorEq, isi_tuple t ht]
  cases t
  case tuple us =>
    obtain ⟨hs, hl⟩ := h.resolve_right (by simp)
    have hsu := sh_of_tuple hs
    simp only [dIx_t0, dIx_t1, dIx_l0, dIx_l1, toItems, itemsOf, runF, runL, startE, endF, endL, R.bind_ok, R.bind_exc, R.bind_stuck, gSeq, gIf, gSet, gOwn, gRet, gRetL, gRetO, gDrop, gTgt, gT, gsC, gsN, gN, gFor, gApp, gExt, gFrz, gNil, gExc, eVar, eC, e1, e2, eA, aNil, aCons, eTup, eLst, eCall, lCall, listR, eChain, tV, tAndD, tOrD, tNotD, eAnd, eOr, eNot, eIf, eL, lDisp, lList, lRep, oNone, oSome, eSl, iSeq, iRng1, iRng2, iZipD, iEnumD, iRevD, lListRange, lLc, eSorted, eSortSet, eLenSet, eBor, tBor, tYesD, noE, toB, dCmp, dSub, dNeg, dInt, dLen, dIs, dIsNot, List.map_cons, List.map_nil, List.length_cons, List.length_nil, Nat.reduceAdd, Nat.reduceSub, Nat.reduceLeDiff, List.replicate, List.cons_append, List.nil_append, List.append_nil, List.getElem?_cons_zero, List.getElem?_cons_succ, List.set_cons_zero, List.set_cons_succ, if_true, if_false, reduceIte, Bool.not_true, Bool.not_false, Bool.false_eq_true, reduceCtorEq, dNe_int]
    match us, hs, hl, hsu with
    | [], _, _, _ => simp only [dIx_t0, dIx_t1, dIx_l0, dIx_l1, toItems, itemsOf, runF, runL, startE, endF, endL, R.bind_ok, R.bind_exc, R.bind_stuck, gSeq, gIf, gSet, gOwn, gRet, gRetL, gRetO, gDrop, gTgt, gT, gsC, gsN, gN, gFor, gApp, gExt, gFrz, gNil, gExc, eVar, eC, e1, e2, eA, aNil, aCons, eTup, eLst, eCall, lCall, listR, eChain, tV, tAndD, tOrD, tNotD, eAnd, eOr, eNot, eIf, eL, lDisp, lList, lRep, oNone, oSome, eSl, iSeq, iRng1, iRng2, iZipD, iEnumD, iRevD, lListRange, lLc, eSorted, eSortSet, eLenSet, eBor, tBor, tYesD, noE, toB, dCmp, dSub, dNeg, dInt, dLen, dIs, dIsNot, List.map_cons, List.map_nil, List.length_cons, List.length_nil, Nat.reduceAdd, Nat.reduceSub, Nat.reduceLeDiff, List.replicate, List.cons_append, List.nil_append, List.append_nil, List.getElem?_cons_zero, List.getElem?_cons_succ, List.set_cons_zero, List.set_cons_succ, if_true, if_false, reduceIte, Bool.not_true, Bool.not_false, Bool.false_eq_true, reduceCtorEq, isW]; rfl
    | [_], _, _, _ => simp only [dIx_t0, dIx_t1, dIx_l0, dIx_l1, toItems, itemsOf, runF, runL, startE, endF, endL, R.bind_ok, R.bind_exc, R.bind_stuck, gSeq, gIf, gSet, gOwn, gRet, gRetL, gRetO, gDrop, gTgt, gT, gsC, gsN, gN, gFor, gApp, gExt, gFrz, gNil, gExc, eVar, eC, e1, e2, eA, aNil, aCons, eTup, eLst, eCall, lCall, listR, eChain, tV, tAndD, tOrD, tNotD, eAnd, eOr, eNot, eIf, eL, lDisp, lList, lRep, oNone, oSome, eSl, iSeq, iRng1, iRng2, iZipD, iEnumD, iRevD, lListRange, lLc, eSorted, eSortSet, eLenSet, eBor, tBor, tYesD, noE, toB, dCmp, dSub, dNeg, dInt, dLen, dIs, dIsNot, List.map_cons, List.map_nil, List.length_cons, List.length_nil, Nat.reduceAdd, Nat.reduceSub, Nat.reduceLeDiff, List.replicate, List.cons_append, List.nil_append, List.append_nil, List.getElem?_cons_zero, List.getElem?_cons_succ, List.set_cons_zero, List.set_cons_succ, if_true, if_false, reduceIte, Bool.not_true, Bool.not_false, Bool.false_eq_true, reduceCtorEq, isW]; rfl
    | _ :: _ :: _ :: r, _, _, _ =>
      have e : decide ((((r.length + 1 + 1 + 1 : Nat)) : Int) = 2) = false := decide_eq_false (by omega)
      simp only [dIx_t0, dIx_t1, dIx_l0, dIx_l1, toItems, itemsOf, runF, runL, startE, endF, endL, R.bind_ok, R.bind_exc, R.bind_stuck, gSeq, gIf, gSet, gOwn, gRet, gRetL, gRetO, gDrop, gTgt, gT, gsC, gsN, gN, gFor, gApp, gExt, gFrz, gNil, gExc, eVar, eC, e1, e2, eA, aNil, aCons, eTup, eLst, eCall, lCall, listR, eChain, tV, tAndD, tOrD, tNotD, eAnd, eOr, eNot, eIf, eL, lDisp, lList, lRep, oNone, oSome, eSl, iSeq, iRng1, iRng2, iZipD, iEnumD, iRevD, lListRange, lLc, eSorted, eSortSet, eLenSet, eBor, tBor, tYesD, noE, toB, dCmp, dSub, dNeg, dInt, dLen, dIs, dIsNot, List.map_cons, List.map_nil, List.length_cons, List.length_nil, Nat.reduceAdd, Nat.reduceSub, Nat.reduceLeDiff, List.replicate, List.cons_append, List.nil_append, List.append_nil, List.getElem?_cons_zero, List.getElem?_cons_succ, List.set_cons_zero, List.set_cons_succ, if_true, if_false, reduceIte, Bool.not_true, Bool.not_false, Bool.false_eq_true, reduceCtorEq, isW, e]
    | [a, b], hs, hl, hsu =>
      have e : decide ((((2 : Nat)) : Int) = 2) = true := by decide
      have ha := hsu a (by simp)
      have hb := hsu b (by simp)
      have ka : ∀ xs, a = .tuple xs → xs.length ≤ 60 := fun xs e => by have := hl _ rfl xs (by simp [e]); omega
      have kb : ∀ xs, b = .tuple xs → xs.length ≤ 60 := fun xs e => by have := hl _ rfl xs (by simp [e]); omega
      simp only [dIx_t0, dIx_t1, dIx_l0, dIx_l1, toItems, itemsOf, runF, runL, startE, endF, endL, R.bind_ok, R.bind_exc, R.bind_stuck, gSeq, gIf, gSet, gOwn, gRet, gRetL, gRetO, gDrop, gTgt, gT, gsC, gsN, gN, gFor, gApp, gExt, gFrz, gNil, gExc, eVar, eC, e1, e2, eA, aNil, aCons, eTup, eLst, eCall, lCall, listR, eChain, tV, tAndD, tOrD, tNotD, eAnd, eOr, eNot, eIf, eL, lDisp, lList, lRep, oNone, oSome, eSl, iSeq, iRng1, iRng2, iZipD, iEnumD, iRevD, lListRange, lLc, eSorted, eSortSet, eLenSet, eBor, tBor, tYesD, noE, toB, dCmp, dSub, dNeg, dInt, dLen, dIs, dIsNot, List.map_cons, List.map_nil, List.length_cons, List.length_nil, Nat.reduceAdd, Nat.reduceSub, Nat.reduceLeDiff, List.replicate, List.cons_append, List.nil_append, List.append_nil, List.getElem?_cons_zero, List.getElem?_cons_succ, List.set_cons_zero, List.set_cons_succ, if_true, if_false, reduceIte, Bool.not_true, Bool.not_false, Bool.false_eq_true, reduceCtorEq, e, F__law_is_pan_eq m a (.inl ⟨ha, ka⟩), F__law_is_pan_eq m b (.inl ⟨hb, kb⟩), isW]
      cases h1 : isPan m a
      · simp only [dIx_t0, dIx_t1, dIx_l0, dIx_l1, toItems, itemsOf, runF, runL, startE, endF, endL, R.bind_ok, R.bind_exc, R.bind_stuck, gSeq, gIf, gSet, gOwn, gRet, gRetL, gRetO, gDrop, gTgt, gT, gsC, gsN, gN, gFor, gApp, gExt, gFrz, gNil, gExc, eVar, eC, e1, e2, eA, aNil, aCons, eTup, eLst, eCall, lCall, listR, eChain, tV, tAndD, tOrD, tNotD, eAnd, eOr, eNot, eIf, eL, lDisp, lList, lRep, oNone, oSome, eSl, iSeq, iRng1, iRng2, iZipD, iEnumD, iRevD, lListRange, lLc, eSorted, eSortSet, eLenSet, eBor, tBor, tYesD, noE, toB, dCmp, dSub, dNeg, dInt, dLen, dIs, dIsNot, List.map_cons, List.map_nil, List.length_cons, List.length_nil, Nat.reduceAdd, Nat.reduceSub, Nat.reduceLeDiff, List.replicate, List.cons_append, List.nil_append, List.append_nil, List.getElem?_cons_zero, List.getElem?_cons_succ, List.set_cons_zero, List.set_cons_succ, if_true, if_false, reduceIte, Bool.not_true, Bool.not_false, Bool.false_eq_true, reduceCtorEq, Bool.false_and]
      · simp only [dIx_t0, dIx_t1, dIx_l0, dIx_l1, toItems, itemsOf, runF, runL, startE, endF, endL, R.bind_ok, R.bind_exc, R.bind_stuck, gSeq, gIf, gSet, gOwn, gRet, gRetL, gRetO, gDrop, gTgt, gT, gsC, gsN, gN, gFor, gApp, gExt, gFrz, gNil, gExc, eVar, eC, e1, e2, eA, aNil, aCons, eTup, eLst, eCall, lCall, listR, eChain, tV, tAndD, tOrD, tNotD, eAnd, eOr, eNot, eIf, eL, lDisp, lList, lRep, oNone, oSome, eSl, iSeq, iRng1, iRng2, iZipD, iEnumD, iRevD, lListRange, lLc, eSorted, eSortSet, eLenSet, eBor, tBor, tYesD, noE, toB, dCmp, dSub, dNeg, dInt, dLen, dIs, dIsNot, List.map_cons, List.map_nil, List.length_cons, List.length_nil, Nat.reduceAdd, Nat.reduceSub, Nat.reduceLeDiff, List.replicate, List.cons_append, List.nil_append, List.append_nil, List.getElem?_cons_zero, List.getElem?_cons_succ, List.set_cons_zero, List.set_cons_succ, if_true, if_false, reduceIte, Bool.not_true, Bool.not_false, Bool.false_eq_true, reduceCtorEq, F__law_is_pan_eq m b (.inl ⟨hb, kb⟩)]
        cases h2 : isPan m b
        · simp only [dIx_t0, dIx_t1, dIx_l0, dIx_l1, toItems, itemsOf, runF, runL, startE, endF, endL, R.bind_ok, R.bind_exc, R.bind_stuck, gSeq, gIf, gSet, gOwn, gRet, gRetL, gRetO, gDrop, gTgt, gT, gsC, gsN, gN, gFor, gApp, gExt, gFrz, gNil, gExc, eVar, eC, e1, e2, eA, aNil, aCons, eTup, eLst, eCall, lCall, listR, eChain, tV, tAndD, tOrD, tNotD, eAnd, eOr, eNot, eIf, eL, lDisp, lList, lRep, oNone, oSome, eSl, iSeq, iRng1, iRng2, iZipD, iEnumD, iRevD, lListRange, lLc, eSorted, eSortSet, eLenSet, eBor, tBor, tYesD, noE, toB, dCmp, dSub, dNeg, dInt, dLen, dIs, dIsNot, List.map_cons, List.map_nil, List.length_cons, List.length_nil, Nat.reduceAdd, Nat.reduceSub, Nat.reduceLeDiff, List.replicate, List.cons_append, List.nil_append, List.append_nil, List.getElem?_cons_zero, List.getElem?_cons_succ, List.set_cons_zero, List.set_cons_succ, if_true, if_false, reduceIte, Bool.not_true, Bool.not_false, Bool.false_eq_true, reduceCtorEq, Bool.false_and, Bool.and_false]
        · obtain ⟨xs, rfl⟩ := isPan_tuple h1
          obtain ⟨ys, rfl⟩ := isPan_tuple h2
          obtain ⟨ns, rfl, n1, _, _⟩ := isPan_ints h1
          obtain ⟨ms, rfl, m1, _, _⟩ := isPan_ints h2
          have l1 := hl _ rfl (ns.map PyData.int) (by simp)
          have l2 := hl _ rfl (ms.map PyData.int) (by simp)
          rw [List.length_map] at l1 l2
          simp only [dIx_t0, dIx_t1, dIx_l0, dIx_l1, toItems, itemsOf, runF, runL, startE, endF, endL, R.bind_ok, R.bind_exc, R.bind_stuck, gSeq, gIf, gSet, gOwn, gRet, gRetL, gRetO, gDrop, gTgt, gT, gsC, gsN, gN, gFor, gApp, gExt, gFrz, gNil, gExc, eVar, eC, e1, e2, eA, aNil, aCons, eTup, eLst, eCall, lCall, listR, eChain, tV, tAndD, tOrD, tNotD, eAnd, eOr, eNot, eIf, eL, lDisp, lList, lRep, oNone, oSome, eSl, iSeq, iRng1, iRng2, iZipD, iEnumD, iRevD, lListRange, lLc, eSorted, eSortSet, eLenSet, eBor, tBor, tYesD, noE, toB, dCmp, dSub, dNeg, dInt, dLen, dIs, dIsNot, List.map_cons, List.map_nil, List.length_cons, List.length_nil, Nat.reduceAdd, Nat.reduceSub, Nat.reduceLeDiff, List.replicate, List.cons_append, List.nil_append, List.append_nil, List.getElem?_cons_zero, List.getElem?_cons_succ, List.set_cons_zero, List.set_cons_succ, if_true, if_false, reduceIte, Bool.not_true, Bool.not_false, Bool.false_eq_true, reduceCtorEq, Bool.true_and, dNe_int, List.length_map]
          by_cases hle : ns.length = ms.length
          · have e3 : decide (((ns.length : Nat) : Int) = (ms.length : Nat)) = true := decide_eq_true (by rw [hle])
            have e5 : ns.map PyData.int ++ ms.map PyData.int = (ns ++ ms).map PyData.int := by rw [List.map_append]
            have e6 : (ns ++ ms).length ≤ 60 := by rw [List.length_append]; omega
            have e7 : small64 2 = true := by decide
            simp only [dIx_t0, dIx_t1, dIx_l0, dIx_l1, toItems, itemsOf, runF, runL, startE, endF, endL, R.bind_ok, R.bind_exc, R.bind_stuck, gSeq, gIf, gSet, gOwn, gRet, gRetL, gRetO, gDrop, gTgt, gT, gsC, gsN, gN, gFor, gApp, gExt, gFrz, gNil, gExc, eVar, eC, e1, e2, eA, aNil, aCons, eTup, eLst, eCall, lCall, listR, eChain, tV, tAndD, tOrD, tNotD, eAnd, eOr, eNot, eIf, eL, lDisp, lList, lRep, oNone, oSome, eSl, iSeq, iRng1, iRng2, iZipD, iEnumD, iRevD, lListRange, lLc, eSorted, eSortSet, eLenSet, eBor, tBor, tYesD, noE, toB, dCmp, dSub, dNeg, dInt, dLen, dIs, dIsNot, List.map_cons, List.map_nil, List.length_cons, List.length_nil, Nat.reduceAdd, Nat.reduceSub, Nat.reduceLeDiff, List.replicate, List.cons_append, List.nil_append, List.append_nil, List.getElem?_cons_zero, List.getElem?_cons_succ, List.set_cons_zero, List.set_cons_succ, if_true, if_false, reduceIte, Bool.not_true, Bool.not_false, Bool.false_eq_true, reduceCtorEq, e3, decide_eq_true hle, Bool.true_and, dAdd, e5, List.length_map, e6, show ns.length + ms.length ≤ 100000 by omega, setInts, intsOf_map, dMul, e7, Bool.true_or, dEq_int]
            have e8 : decide (((distI (ns ++ ms)).length : Int) = 2 * (ns.length : Nat)) = apartB (ns.map PyData.int) (ms.map PyData.int) := by
              rw [Bool.eq_iff_iff, apart_ints, decide_eq_true_eq]
              have e9 : (((distI (ns ++ ms)).length : Int) = 2 * (ns.length : Nat)) ↔ (distI (ns ++ ms)).length = (ns ++ ms).length := by rw [List.length_append]; omega
              rw [e9, nodup_dist, List.nodup_append]
              constructor
              · rintro ⟨_, _, h3⟩ z hz hz2
                exact h3 z hz z hz2 rfl
              · intro h3
                exact ⟨up_nodup n1, up_nodup m1, fun x hx y hy e => h3 x hx (e ▸ hy)⟩
            rw [e8]
          · have e3 : decide (((ns.length : Nat) : Int) = (ms.length : Nat)) = false := decide_eq_false (by omega)
            simp only [dIx_t0, dIx_t1, dIx_l0, dIx_l1, toItems, itemsOf, runF, runL, startE, endF, endL, R.bind_ok, R.bind_exc, R.bind_stuck, gSeq, gIf, gSet, gOwn, gRet, gRetL, gRetO, gDrop, gTgt, gT, gsC, gsN, gN, gFor, gApp, gExt, gFrz, gNil, gExc, eVar, eC, e1, e2, eA, aNil, aCons, eTup, eLst, eCall, lCall, listR, eChain, tV, tAndD, tOrD, tNotD, eAnd, eOr, eNot, eIf, eL, lDisp, lList, lRep, oNone, oSome, eSl, iSeq, iRng1, iRng2, iZipD, iEnumD, iRevD, lListRange, lLc, eSorted, eSortSet, eLenSet, eBor, tBor, tYesD, noE, toB, dCmp, dSub, dNeg, dInt, dLen, dIs, dIsNot, List.map_cons, List.map_nil, List.length_cons, List.length_nil, Nat.reduceAdd, Nat.reduceSub, Nat.reduceLeDiff, List.replicate, List.cons_append, List.nil_append, List.append_nil, List.getElem?_cons_zero, List.getElem?_cons_succ, List.set_cons_zero, List.set_cons_succ, if_true, if_false, reduceIte, Bool.not_true, Bool.not_false, Bool.false_eq_true, reduceCtorEq, e3, decide_eq_false hle, Bool.false_and]
  all_goals simp only [dIx_t0, dIx_t1, dIx_l0, dIx_l1, toItems, itemsOf, runF, runL, startE, endF, endL, R.bind_ok, R.bind_exc, R.bind_stuck, gSeq, gIf, gSet, gOwn, gRet, gRetL, gRetO, gDrop, gTgt, gT, gsC, gsN, gN, gFor, gApp, gExt, gFrz, gNil, gExc, eVar, eC, e1, e2, eA, aNil, aCons, eTup, eLst, eCall, lCall, listR, eChain, tV, tAndD, tOrD, tNotD, eAnd, eOr, eNot, eIf, eL, lDisp, lList, lRep, oNone, oSome, eSl, iSeq, iRng1, iRng2, iZipD, iEnumD, iRevD, lListRange, lLc, eSorted, eSortSet, eLenSet, eBor, tBor, tYesD, noE, toB, dCmp, dSub, dNeg, dInt, dLen, dIs, dIsNot, List.map_cons, List.map_nil, List.length_cons, List.length_nil, Nat.reduceAdd, Nat.reduceSub, Nat.reduceLeDiff, List.replicate, List.cons_append, List.nil_append, List.append_nil, List.getElem?_cons_zero, List.getElem?_cons_succ, List.set_cons_zero, List.set_cons_succ, if_true, if_false, reduceIte, Bool.not_true, Bool.not_false, Bool.false_eq_true, reduceCtorEq, isW]

end W

set_option Elab.async false
set_option linter.all false
set_option maxRecDepth 100000
set_option maxHeartbeats 1000000
namespace W
open PySem PL
/-! ### Search, typed: places in the list of cases -/
abbrev tupI (s : List Int) : D := .tuple (s.map PyData.int)
abbrev lstI (r : List Int) : D := .list (r.map PyData.int)
def zS (cs : List (List Int)) (ws : List Wg) (rows : List (List Int)) : D := selfD (.list (cs.map encC)) (.list (ws.map encW)) (rowsD rows)
theorem self_zS (cs : List (List Int)) (ws : List Wg) (rows : List (List Int)) : isSelf (zS cs ws rows) = true := rfl
/-- places within n -/
def In (n : Nat) (s : List Int) : Prop := ∀ k ∈ s, 0 ≤ k ∧ k < (n : Int)
theorem idx_sub (s r : List Int) (d : Int) : (idxI s r d).Sublist s := List.filter_sublist
theorem In.idx {n : Nat} {s : List Int} (h : In n s) (r : List Int) (d : Int) : In n (idxI s r d) := fun k hk => h k ((idx_sub s r d).mem hk)
theorem row_at {r : List Int} {k : Int} (h : 0 ≤ k ∧ k < (r.length : Int)) : dIx (lstI r) (.int k) = .ok (.int (r.getD k.toNat 0)) := by
  refine dIx_list h.1 ?_
  rw [List.getElem?_map, List.getD_eq_getElem?_getD, List.getElem?_eq_getElem (by omega)]
  rfl
theorem parts1 {s r : List Int} (h : In r.length s) (hl : s.length ≤ 1000) (d : Int) (s0 : PL.Slot noObj) : c_m_parts_1 [s0, .val (lstI r), .val (tupI s), .val (.int d), .no] = .ok ((idxI s r d).map PyData.int) := by
  unfold c_m_parts_1
  simp only [dIx_t0, dIx_t1, dIx_l0, dIx_l1, toItems, itemsOf, runF, runL, startE, endF, endL, R.bind_ok, R.bind_exc, R.bind_stuck, gSeq, gIf, gSet, gOwn, gRet, gRetL, gRetO, gDrop, gTgt, gT, gsC, gsN, gN, gFor, gApp, gExt, gFrz, gNil, gExc, eVar, eC, e1, e2, eA, aNil, aCons, eTup, eLst, eCall, lCall, listR, eChain, tV, tAndD, tOrD, tNotD, eAnd, eOr, eNot, eIf, eL, lDisp, lList, lRep, oNone, oSome, eSl, iSeq, iRng1, iRng2, iZipD, iEnumD, iRevD, lListRange, lLc, eSorted, eSortSet, eLenSet, eBor, tBor, tYesD, noE, toB, dCmp, dSub, dNeg, dInt, dLen, dIs, dIsNot, List.map_cons, List.map_nil, List.length_cons, List.length_nil, Nat.reduceAdd, Nat.reduceSub, Nat.reduceLeDiff, List.replicate, List.cons_append, List.nil_append, List.append_nil, List.getElem?_cons_zero, List.getElem?_cons_succ, List.set_cons_zero, List.set_cons_succ, if_true, if_false, reduceIte, Bool.not_true, Bool.not_false, Bool.false_eq_true, reduceCtorEq]
  rw [if_pos ⟨by rw [List.length_map]; omega, rfl⟩]
  refine noE_of (each_flt (p := fun k : Int => decide (r.getD k.toNat 0 = d)) fun k hk => ?_)
  have e := row_at (h k hk)
  unfold lstI at e
  unfold lcStep
  simp only [dIx_t0, dIx_t1, dIx_l0, dIx_l1, toItems, itemsOf, runF, runL, startE, endF, endL, R.bind_ok, R.bind_exc, R.bind_stuck, gSeq, gIf, gSet, gOwn, gRet, gRetL, gRetO, gDrop, gTgt, gT, gsC, gsN, gN, gFor, gApp, gExt, gFrz, gNil, gExc, eVar, eC, e1, e2, eA, aNil, aCons, eTup, eLst, eCall, lCall, listR, eChain, tV, tAndD, tOrD, tNotD, eAnd, eOr, eNot, eIf, eL, lDisp, lList, lRep, oNone, oSome, eSl, iSeq, iRng1, iRng2, iZipD, iEnumD, iRevD, lListRange, lLc, eSorted, eSortSet, eLenSet, eBor, tBor, tYesD, noE, toB, dCmp, dSub, dNeg, dInt, dLen, dIs, dIsNot, List.map_cons, List.map_nil, List.length_cons, List.length_nil, Nat.reduceAdd, Nat.reduceSub, Nat.reduceLeDiff, List.replicate, List.cons_append, List.nil_append, List.append_nil, List.getElem?_cons_zero, List.getElem?_cons_succ, List.set_cons_zero, List.set_cons_succ, if_true, if_false, reduceIte, Bool.not_true, Bool.not_false, Bool.false_eq_true, reduceCtorEq, wipeE, e, dEq_int]
  by_cases hd : r.getD k.toNat 0 = d
  · simp only [dIx_t0, dIx_t1, dIx_l0, dIx_l1, toItems, itemsOf, runF, runL, startE, endF, endL, R.bind_ok, R.bind_exc, R.bind_stuck, gSeq, gIf, gSet, gOwn, gRet, gRetL, gRetO, gDrop, gTgt, gT, gsC, gsN, gN, gFor, gApp, gExt, gFrz, gNil, gExc, eVar, eC, e1, e2, eA, aNil, aCons, eTup, eLst, eCall, lCall, listR, eChain, tV, tAndD, tOrD, tNotD, eAnd, eOr, eNot, eIf, eL, lDisp, lList, lRep, oNone, oSome, eSl, iSeq, iRng1, iRng2, iZipD, iEnumD, iRevD, lListRange, lLc, eSorted, eSortSet, eLenSet, eBor, tBor, tYesD, noE, toB, dCmp, dSub, dNeg, dInt, dLen, dIs, dIsNot, List.map_cons, List.map_nil, List.length_cons, List.length_nil, Nat.reduceAdd, Nat.reduceSub, Nat.reduceLeDiff, List.replicate, List.cons_append, List.nil_append, List.append_nil, List.getElem?_cons_zero, List.getElem?_cons_succ, List.set_cons_zero, List.set_cons_succ, if_true, if_false, reduceIte, Bool.not_true, Bool.not_false, Bool.false_eq_true, reduceCtorEq, decide_eq_true hd]
  · simp only [dIx_t0, dIx_t1, dIx_l0, dIx_l1, toItems, itemsOf, runF, runL, startE, endF, endL, R.bind_ok, R.bind_exc, R.bind_stuck, gSeq, gIf, gSet, gOwn, gRet, gRetL, gRetO, gDrop, gTgt, gT, gsC, gsN, gN, gFor, gApp, gExt, gFrz, gNil, gExc, eVar, eC, e1, e2, eA, aNil, aCons, eTup, eLst, eCall, lCall, listR, eChain, tV, tAndD, tOrD, tNotD, eAnd, eOr, eNot, eIf, eL, lDisp, lList, lRep, oNone, oSome, eSl, iSeq, iRng1, iRng2, iZipD, iEnumD, iRevD, lListRange, lLc, eSorted, eSortSet, eLenSet, eBor, tBor, tYesD, noE, toB, dCmp, dSub, dNeg, dInt, dLen, dIs, dIsNot, List.map_cons, List.map_nil, List.length_cons, List.length_nil, Nat.reduceAdd, Nat.reduceSub, Nat.reduceLeDiff, List.replicate, List.cons_append, List.nil_append, List.append_nil, List.getElem?_cons_zero, List.getElem?_cons_succ, List.set_cons_zero, List.set_cons_succ, if_true, if_false, reduceIte, Bool.not_true, Bool.not_false, Bool.false_eq_true, reduceCtorEq, decide_eq_false hd]
theorem F_parts_eq {s r : List Int} (h : In r.length s) (hl : s.length ≤ 1000) (z : D) : F_m_parts [z, lstI r, tupI s] = .ok (.list ((partsI r s).map tupI)) := by
  have k0 := parts1 h hl (-1) (.val z)
  have k1 := parts1 h hl 0 (.val z)
  have k2 := parts1 h hl 1 (.val z)
  have t1 : ∀ xs : List D, dTuple [.list xs] = .ok (.tuple xs) := fun _ => rfl
  have key : c_m_parts_2 [.val z, .val (lstI r), .val (tupI s), .no, .no] = .ok ((partsI r s).map tupI) := by
    unfold c_m_parts_2
    simp only [dIx_t0, dIx_t1, dIx_l0, dIx_l1, toItems, itemsOf, runF, runL, startE, endF, endL, R.bind_ok, R.bind_exc, R.bind_stuck, gSeq, gIf, gSet, gOwn, gRet, gRetL, gRetO, gDrop, gTgt, gT, gsC, gsN, gN, gFor, gApp, gExt, gFrz, gNil, gExc, eVar, eC, e1, e2, eA, aNil, aCons, eTup, eLst, eCall, lCall, listR, eChain, tV, tAndD, tOrD, tNotD, eAnd, eOr, eNot, eIf, eL, lDisp, lList, lRep, oNone, oSome, eSl, iSeq, iRng1, iRng2, iZipD, iEnumD, iRevD, lListRange, lLc, eSorted, eSortSet, eLenSet, eBor, tBor, tYesD, noE, toB, dCmp, dSub, dNeg, dInt, dLen, dIs, dIsNot, List.map_cons, List.map_nil, List.length_cons, List.length_nil, Nat.reduceAdd, Nat.reduceSub, Nat.reduceLeDiff, List.replicate, List.cons_append, List.nil_append, List.append_nil, List.getElem?_cons_zero, List.getElem?_cons_succ, List.set_cons_zero, List.set_cons_succ, if_true, if_false, reduceIte, Bool.not_true, Bool.not_false, Bool.false_eq_true, reduceCtorEq]
    rw [if_pos ⟨by decide, rfl⟩]
    refine noE_of ?_
    simp only [eachR]
    unfold lcStep
    simp only [dIx_t0, dIx_t1, dIx_l0, dIx_l1, toItems, itemsOf, runF, runL, startE, endF, endL, R.bind_ok, R.bind_exc, R.bind_stuck, gSeq, gIf, gSet, gOwn, gRet, gRetL, gRetO, gDrop, gTgt, gT, gsC, gsN, gN, gFor, gApp, gExt, gFrz, gNil, gExc, eVar, eC, e1, e2, eA, aNil, aCons, eTup, eLst, eCall, lCall, listR, eChain, tV, tAndD, tOrD, tNotD, eAnd, eOr, eNot, eIf, eL, lDisp, lList, lRep, oNone, oSome, eSl, iSeq, iRng1, iRng2, iZipD, iEnumD, iRevD, lListRange, lLc, eSorted, eSortSet, eLenSet, eBor, tBor, tYesD, noE, toB, dCmp, dSub, dNeg, dInt, dLen, dIs, dIsNot, List.map_cons, List.map_nil, List.length_cons, List.length_nil, Nat.reduceAdd, Nat.reduceSub, Nat.reduceLeDiff, List.replicate, List.cons_append, List.nil_append, List.append_nil, List.getElem?_cons_zero, List.getElem?_cons_succ, List.set_cons_zero, List.set_cons_succ, if_true, if_false, reduceIte, Bool.not_true, Bool.not_false, Bool.false_eq_true, reduceCtorEq, wipeE, k0, k1, k2, t1]
    rfl
  unfold F_m_parts g_m_parts
  simp only [dIx_t0, dIx_t1, dIx_l0, dIx_l1, toItems, itemsOf, runF, runL, startE, endF, endL, R.bind_ok, R.bind_exc, R.bind_stuck, gSeq, gIf, gSet, gOwn, gRet, gRetL, gRetO, gDrop, gTgt, gT, gsC, gsN, gN, gFor, gApp, gExt, gFrz, gNil, gExc, eVar, eC, e1, e2, eA, aNil, aCons, eTup, eLst, eCall, lCall, listR, eChain, tV, tAndD, tOrD, tNotD, eAnd, eOr, eNot, eIf, eL, lDisp, lList, lRep, oNone, oSome, eSl, iSeq, iRng1, iRng2, iZipD, iEnumD, iRevD, lListRange, lLc, eSorted, eSortSet, eLenSet, eBor, tBor, tYesD, noE, toB, dCmp, dSub, dNeg, dInt, dLen, dIs, dIsNot, List.map_cons, List.map_nil, List.length_cons, List.length_nil, Nat.reduceAdd, Nat.reduceSub, Nat.reduceLeDiff, List.replicate, List.cons_append, List.nil_append, List.append_nil, List.getElem?_cons_zero, List.getElem?_cons_succ, List.set_cons_zero, List.set_cons_succ, if_true, if_false, reduceIte, Bool.not_true, Bool.not_false, Bool.false_eq_true, reduceCtorEq, key]
theorem is_many_tup (s : List Int) (n : Nat) (h : n ≤ 1000) : F_is_many [tupI s, .int n] = .ok (.bool (decide (3 ^ n < s.length))) := by
  unfold F_is_many g_is_many
  simp only [dIx_t0, dIx_t1, dIx_l0, dIx_l1, toItems, itemsOf, runF, runL, startE, endF, endL, R.bind_ok, R.bind_exc, R.bind_stuck, gSeq, gIf, gSet, gOwn, gRet, gRetL, gRetO, gDrop, gTgt, gT, gsC, gsN, gN, gFor, gApp, gExt, gFrz, gNil, gExc, eVar, eC, e1, e2, eA, aNil, aCons, eTup, eLst, eCall, lCall, listR, eChain, tV, tAndD, tOrD, tNotD, eAnd, eOr, eNot, eIf, eL, lDisp, lList, lRep, oNone, oSome, eSl, iSeq, iRng1, iRng2, iZipD, iEnumD, iRevD, lListRange, lLc, eSorted, eSortSet, eLenSet, eBor, tBor, tYesD, noE, toB, dCmp, dSub, dNeg, dInt, dLen, dIs, dIsNot, List.map_cons, List.map_nil, List.length_cons, List.length_nil, Nat.reduceAdd, Nat.reduceSub, Nat.reduceLeDiff, List.replicate, List.cons_append, List.nil_append, List.append_nil, List.getElem?_cons_zero, List.getElem?_cons_succ, List.set_cons_zero, List.set_cons_succ, if_true, if_false, reduceIte, Bool.not_true, Bool.not_false, Bool.false_eq_true, reduceCtorEq, F_threes_eq n h, List.length_map, dGt_three]
theorem tupI_sh (s : List Int) : sh 1 (tupI s) := sh_tuple (sh_ints s)
theorem tupI_inj {s t : List Int} : tupI s = tupI t ↔ s = t := by
  rw [PyData.tuple.injEq]
  exact map_int_inj
theorem tupI_ex (s : List Int) : exact (tupI s) = true := exact_ints s
theorem notIn_tups (s : List Int) (ps : List (List Int)) : dNotIn (tupI s) (.list (ps.map tupI)) = .ok (.bool (!decide (s ∈ ps))) := by
  have q3 : (SeqAt.shaped (tupI s) && SeqAt.shaped (.list (ps.map tupI))) = true := by
    rw [show SeqAt.shaped (tupI s) = true from shaped_sh (tupI_sh s), shaped_sh (sh_list (n := 1) fun x hx => ?_)]
    · rfl
    · obtain ⟨d, _, rfl⟩ := List.mem_map.mp hx
      exact tupI_sh d
  unfold dNotIn
  simp only [q3, if_true]
  congr 3
  rw [Bool.eq_iff_iff, List.any_eq_true, decide_eq_true_eq]
  constructor
  · rintro ⟨x, hx, e⟩
    obtain ⟨p, hp, rfl⟩ := List.mem_map.mp hx
    have := (eqv_exact _ _ (tupI_ex p) (tupI_ex s)).mp e
    rw [← tupI_inj.mp this]
    exact hp
  · intro h
    exact ⟨tupI s, List.mem_map_of_mem h, (eqv_exact _ _ (tupI_ex s) (tupI_ex s)).mpr rfl⟩
/-- the place of the first that is so -/
def firstP {α : Type} (p : α → Bool) : List α → Option Nat
  | [] => none
  | a :: l => if p a = true then some 0 else (firstP p l).map (· + 1)
theorem firstP_none {α : Type} {p : α → Bool} : ∀ {l : List α}, firstP p l = none ↔ l.any p = false
  | [] => by simp [firstP]
  | a :: l => by
    unfold firstP
    by_cases h : p a = true
    · simp [h]
    · simp [h, firstP_none (l := l)]
theorem firstP_some {α : Type} {p : α → Bool} : ∀ {l : List α} {i : Nat}, firstP p l = some i → ∃ a, l[i]? = some a ∧ p a = true
  | [], i, h => by cases h
  | a :: l, i, h => by
    unfold firstP at h
    split at h
    · rename_i hp
      cases h
      exact ⟨a, rfl, hp⟩
    · obtain ⟨j, hj, rfl⟩ := Option.map_eq_some_iff.mp h
      obtain ⟨b, h1, h2⟩ := firstP_some hj
      exact ⟨b, by simpa using h1, h2⟩
def optI : Option Nat → D
  | none => .none
  | some i => .int i
/-- places of twelve cases at most, rising -/
structure Pl12 (n : Nat) (s : List Int) : Prop where
  i : In n s
  sub : s ∈ subs12
  le : s.length ≤ 12
theorem subsI_mem : ∀ {t s : List Int}, s ∈ subsI t ↔ s.Sublist t
  | [], s => by simp [subsI]
  | x :: t, s => by
    rw [subsI, List.mem_append, List.mem_map]
    constructor
    · rintro (h | ⟨u, h, rfl⟩)
      · exact (subsI_mem.mp h).cons x
      · exact (subsI_mem.mp h).cons_cons x
    · intro h
      cases h with
      | cons _ h => exact .inl (subsI_mem.mpr h)
      | cons_cons _ h => exact .inr ⟨_, subsI_mem.mpr h, rfl⟩
theorem Pl12.idx {n : Nat} {s : List Int} (h : Pl12 n s) (r : List Int) (d : Int) : Pl12 n (idxI s r d) :=
  ⟨h.i.idx r d, subsI_mem.mpr ((idx_sub s r d).trans (subsI_mem.mp h.sub)), Nat.le_trans (idx_sub s r d).length_le h.le⟩
/-! ### fits, first -/
theorem first_step {n : Nat} {z : D} (hz : isSelf z = true) {s r : List Int} (hs : Pl12 n s) (hr : r.length = n) {k : Nat} {f : List Int → Bool} {Rf Rg : List D → PL.R D} (hR : ∀ p, Pl12 n p → Rf [z, tupI p, .int k] = .ok (.bool (f p))) (j : Int) (s5 : PL.Slot noObj) :
    ∃ t5, g_m_first_L1 Rf Rg [.val z, .val (tupI s), .val (.int ((k + 1 : Nat) : Int)), .val (.int j), .val (lstI r), s5, .no] =
      if tryI f s r = true then .ok (.rt (.int j), [.val z, .val (tupI s), .val (.int ((k + 1 : Nat) : Int)), .val (.int j), .val (lstI r), t5, .no])
      else .ok (.nx, [.val z, .val (tupI s), .val (.int ((k + 1 : Nat) : Int)), .val (.int j), .val (lstI r), t5, .no]) := by
  have le := hs.le
  have k1 := F_parts_eq (hr ▸ hs.i) (by omega) z
  have q3 : ((k + 1 : Nat) : Int) - 1 = (k : Int) := by omega
  have hp : ∀ p ∈ partsI r s, Pl12 n p := fun p hp => by
    simp only [partsI, List.mem_cons, List.not_mem_nil, or_false] at hp
    rcases hp with rfl | rfl | rfl <;> exact hs.idx _ _
  have k2 : c_m_first_1 Rf Rg [.val z, .val (tupI s), .val (.int ((k + 1 : Nat) : Int)), .val (.int j), .val (lstI r), .val (.list ((partsI r s).map tupI)), .no] = .ok ((partsI r s).map fun p => .bool (f p)) := by
    unfold c_m_first_1
    simp only [dIx_t0, dIx_t1, dIx_l0, dIx_l1, toItems, itemsOf, runF, runL, startE, endF, endL, R.bind_ok, R.bind_exc, R.bind_stuck, gSeq, gIf, gSet, gOwn, gRet, gRetL, gRetO, gDrop, gTgt, gT, gsC, gsN, gN, gFor, gApp, gExt, gFrz, gNil, gExc, eVar, eC, e1, e2, eA, aNil, aCons, eTup, eLst, eCall, lCall, listR, eChain, tV, tAndD, tOrD, tNotD, eAnd, eOr, eNot, eIf, eL, lDisp, lList, lRep, oNone, oSome, eSl, iSeq, iRng1, iRng2, iZipD, iEnumD, iRevD, lListRange, lLc, eSorted, eSortSet, eLenSet, eBor, tBor, tYesD, noE, toB, dCmp, dSub, dNeg, dInt, dLen, dIs, dIsNot, List.map_cons, List.map_nil, List.length_cons, List.length_nil, Nat.reduceAdd, Nat.reduceSub, Nat.reduceLeDiff, List.replicate, List.cons_append, List.nil_append, List.append_nil, List.getElem?_cons_zero, List.getElem?_cons_succ, List.set_cons_zero, List.set_cons_succ, if_true, if_false, reduceIte, Bool.not_true, Bool.not_false, Bool.false_eq_true, reduceCtorEq]
    rw [if_pos ⟨by simp [partsI], rfl⟩]
    refine noE_of (each_map' fun p h => ?_)
    unfold lcStep
    simp only [dIx_t0, dIx_t1, dIx_l0, dIx_l1, toItems, itemsOf, runF, runL, startE, endF, endL, R.bind_ok, R.bind_exc, R.bind_stuck, gSeq, gIf, gSet, gOwn, gRet, gRetL, gRetO, gDrop, gTgt, gT, gsC, gsN, gN, gFor, gApp, gExt, gFrz, gNil, gExc, eVar, eC, e1, e2, eA, aNil, aCons, eTup, eLst, eCall, lCall, listR, eChain, tV, tAndD, tOrD, tNotD, eAnd, eOr, eNot, eIf, eL, lDisp, lList, lRep, oNone, oSome, eSl, iSeq, iRng1, iRng2, iZipD, iEnumD, iRevD, lListRange, lLc, eSorted, eSortSet, eLenSet, eBor, tBor, tYesD, noE, toB, dCmp, dSub, dNeg, dInt, dLen, dIs, dIsNot, List.map_cons, List.map_nil, List.length_cons, List.length_nil, Nat.reduceAdd, Nat.reduceSub, Nat.reduceLeDiff, List.replicate, List.cons_append, List.nil_append, List.append_nil, List.getElem?_cons_zero, List.getElem?_cons_succ, List.set_cons_zero, List.set_cons_succ, if_true, if_false, reduceIte, Bool.not_true, Bool.not_false, Bool.false_eq_true, reduceCtorEq, wipeE, eMeth, hz, q3, hR p (hp p h)]
  have da : dAll [.list ((partsI r s).map fun p => PyData.bool (f p))] = .ok (.bool ((partsI r s).all f)) := map_bool_all f (partsI r s)
  have k3 := notIn_tups s (partsI r s)
  refine ⟨.val (.list ((partsI r s).map tupI)), ?_⟩
  unfold lstI tupI at k1
  unfold tupI at k3
  unfold g_m_first_L1 tryI
  simp only [dIx_t0, dIx_t1, dIx_l0, dIx_l1, toItems, itemsOf, runF, runL, startE, endF, endL, R.bind_ok, R.bind_exc, R.bind_stuck, gSeq, gIf, gSet, gOwn, gRet, gRetL, gRetO, gDrop, gTgt, gT, gsC, gsN, gN, gFor, gApp, gExt, gFrz, gNil, gExc, eVar, eC, e1, e2, eA, aNil, aCons, eTup, eLst, eCall, lCall, listR, eChain, tV, tAndD, tOrD, tNotD, eAnd, eOr, eNot, eIf, eL, lDisp, lList, lRep, oNone, oSome, eSl, iSeq, iRng1, iRng2, iZipD, iEnumD, iRevD, lListRange, lLc, eSorted, eSortSet, eLenSet, eBor, tBor, tYesD, noE, toB, dCmp, dSub, dNeg, dInt, dLen, dIs, dIsNot, List.map_cons, List.map_nil, List.length_cons, List.length_nil, Nat.reduceAdd, Nat.reduceSub, Nat.reduceLeDiff, List.replicate, List.cons_append, List.nil_append, List.append_nil, List.getElem?_cons_zero, List.getElem?_cons_succ, List.set_cons_zero, List.set_cons_succ, if_true, if_false, reduceIte, Bool.not_true, Bool.not_false, Bool.false_eq_true, reduceCtorEq, eMeth, hz, k1, k3]
  by_cases h : s ∈ partsI r s
  · simp only [dIx_t0, dIx_t1, dIx_l0, dIx_l1, toItems, itemsOf, runF, runL, startE, endF, endL, R.bind_ok, R.bind_exc, R.bind_stuck, gSeq, gIf, gSet, gOwn, gRet, gRetL, gRetO, gDrop, gTgt, gT, gsC, gsN, gN, gFor, gApp, gExt, gFrz, gNil, gExc, eVar, eC, e1, e2, eA, aNil, aCons, eTup, eLst, eCall, lCall, listR, eChain, tV, tAndD, tOrD, tNotD, eAnd, eOr, eNot, eIf, eL, lDisp, lList, lRep, oNone, oSome, eSl, iSeq, iRng1, iRng2, iZipD, iEnumD, iRevD, lListRange, lLc, eSorted, eSortSet, eLenSet, eBor, tBor, tYesD, noE, toB, dCmp, dSub, dNeg, dInt, dLen, dIs, dIsNot, List.map_cons, List.map_nil, List.length_cons, List.length_nil, Nat.reduceAdd, Nat.reduceSub, Nat.reduceLeDiff, List.replicate, List.cons_append, List.nil_append, List.append_nil, List.getElem?_cons_zero, List.getElem?_cons_succ, List.set_cons_zero, List.set_cons_succ, if_true, if_false, reduceIte, Bool.not_true, Bool.not_false, Bool.false_eq_true, reduceCtorEq, decide_eq_true h, Bool.false_and]
  · simp only [dIx_t0, dIx_t1, dIx_l0, dIx_l1, toItems, itemsOf, runF, runL, startE, endF, endL, R.bind_ok, R.bind_exc, R.bind_stuck, gSeq, gIf, gSet, gOwn, gRet, gRetL, gRetO, gDrop, gTgt, gT, gsC, gsN, gN, gFor, gApp, gExt, gFrz, gNil, gExc, eVar, eC, e1, e2, eA, aNil, aCons, eTup, eLst, eCall, lCall, listR, eChain, tV, tAndD, tOrD, tNotD, eAnd, eOr, eNot, eIf, eL, lDisp, lList, lRep, oNone, oSome, eSl, iSeq, iRng1, iRng2, iZipD, iEnumD, iRevD, lListRange, lLc, eSorted, eSortSet, eLenSet, eBor, tBor, tYesD, noE, toB, dCmp, dSub, dNeg, dInt, dLen, dIs, dIsNot, List.map_cons, List.map_nil, List.length_cons, List.length_nil, Nat.reduceAdd, Nat.reduceSub, Nat.reduceLeDiff, List.replicate, List.cons_append, List.nil_append, List.append_nil, List.getElem?_cons_zero, List.getElem?_cons_succ, List.set_cons_zero, List.set_cons_succ, if_true, if_false, reduceIte, Bool.not_true, Bool.not_false, Bool.false_eq_true, reduceCtorEq, decide_eq_false h, k2, da, Bool.true_and]
theorem first_loop {n : Nat} {z : D} (hz : isSelf z = true) {s : List Int} (hs : Pl12 n s) {k : Nat} {f : List Int → Bool} {Rf Rg : List D → PL.R D} (hR : ∀ p, Pl12 n p → Rf [z, tupI p, .int k] = .ok (.bool (f p))) : ∀ (rows : List (List Int)) (j : Nat) (s3 s4 s5 : PL.Slot noObj), (∀ r ∈ rows, r.length = n) →
    ∃ ρ', loopF (gT 2 (gsC (gN 3) (gsC (gN 4) gsN))) (g_m_first_L1 Rf Rg) (enumFrom j (rows.map lstI)) [.val z, .val (tupI s), .val (.int ((k + 1 : Nat) : Int)), s3, s4, s5, .no] =
      match firstP (tryI f s) rows with
      | some i => .ok (.rt (.int ((j + i : Nat) : Int)), ρ')
      | none => .ok (.nx, ρ')
  | [], j, s3, s4, s5, _ => ⟨_, rfl⟩
  | r :: rows, j, s3, s4, s5, hr => by
    obtain ⟨t5, es⟩ := first_step hz hs (hr r (List.mem_cons_self ..)) hR (j : Int) s5 (Rg := Rg)
    obtain ⟨ρ', el⟩ := first_loop hz hs (Rg := Rg) hR rows (j + 1) (.val (.int j)) (.val (lstI r)) t5 fun q hq => hr q (List.mem_cons_of_mem _ hq)
    by_cases hb : tryI f s r = true
    · rw [if_pos hb] at es
      refine ⟨[.val z, .val (tupI s), .val (.int ((k + 1 : Nat) : Int)), .val (.int j), .val (lstI r), t5, .no], ?_⟩
      simp only [dIx_t0, dIx_t1, dIx_l0, dIx_l1, toItems, itemsOf, runF, runL, startE, endF, endL, R.bind_ok, R.bind_exc, R.bind_stuck, gSeq, gIf, gSet, gOwn, gRet, gRetL, gRetO, gDrop, gTgt, gT, gsC, gsN, gN, gFor, gApp, gExt, gFrz, gNil, gExc, eVar, eC, e1, e2, eA, aNil, aCons, eTup, eLst, eCall, lCall, listR, eChain, tV, tAndD, tOrD, tNotD, eAnd, eOr, eNot, eIf, eL, lDisp, lList, lRep, oNone, oSome, eSl, iSeq, iRng1, iRng2, iZipD, iEnumD, iRevD, lListRange, lLc, eSorted, eSortSet, eLenSet, eBor, tBor, tYesD, noE, toB, dCmp, dSub, dNeg, dInt, dLen, dIs, dIsNot, List.map_cons, List.map_nil, List.length_cons, List.length_nil, Nat.reduceAdd, Nat.reduceSub, Nat.reduceLeDiff, List.replicate, List.cons_append, List.nil_append, List.append_nil, List.getElem?_cons_zero, List.getElem?_cons_succ, List.set_cons_zero, List.set_cons_succ, if_true, if_false, reduceIte, Bool.not_true, Bool.not_false, Bool.false_eq_true, reduceCtorEq, enumFrom, loopF, es, firstP, hb, Nat.add_zero]
    · rw [if_neg hb] at es
      refine ⟨ρ', ?_⟩
      have hb' : tryI f s r = false := by simpa using hb
      have ef : firstP (tryI f s) (r :: rows) = (firstP (tryI f s) rows).map (· + 1) := by rw [firstP, hb']; rfl
      rw [ef]
      cases hp : firstP (tryI f s) rows with
      | none =>
        rw [hp] at el
        simp only at el
        simp only [dIx_t0, dIx_t1, dIx_l0, dIx_l1, toItems, itemsOf, runF, runL, startE, endF, endL, R.bind_ok, R.bind_exc, R.bind_stuck, gSeq, gIf, gSet, gOwn, gRet, gRetL, gRetO, gDrop, gTgt, gT, gsC, gsN, gN, gFor, gApp, gExt, gFrz, gNil, gExc, eVar, eC, e1, e2, eA, aNil, aCons, eTup, eLst, eCall, lCall, listR, eChain, tV, tAndD, tOrD, tNotD, eAnd, eOr, eNot, eIf, eL, lDisp, lList, lRep, oNone, oSome, eSl, iSeq, iRng1, iRng2, iZipD, iEnumD, iRevD, lListRange, lLc, eSorted, eSortSet, eLenSet, eBor, tBor, tYesD, noE, toB, dCmp, dSub, dNeg, dInt, dLen, dIs, dIsNot, List.map_cons, List.map_nil, List.length_cons, List.length_nil, Nat.reduceAdd, Nat.reduceSub, Nat.reduceLeDiff, List.replicate, List.cons_append, List.nil_append, List.append_nil, List.getElem?_cons_zero, List.getElem?_cons_succ, List.set_cons_zero, List.set_cons_succ, if_true, if_false, reduceIte, Bool.not_true, Bool.not_false, Bool.false_eq_true, reduceCtorEq, enumFrom, loopF, es, el, Option.map_none]
      | some i =>
        rw [hp] at el
        simp only at el
        rw [show j + 1 + i = j + (i + 1) by omega] at el
        simp only [dIx_t0, dIx_t1, dIx_l0, dIx_l1, toItems, itemsOf, runF, runL, startE, endF, endL, R.bind_ok, R.bind_exc, R.bind_stuck, gSeq, gIf, gSet, gOwn, gRet, gRetL, gRetO, gDrop, gTgt, gT, gsC, gsN, gN, gFor, gApp, gExt, gFrz, gNil, gExc, eVar, eC, e1, e2, eA, aNil, aCons, eTup, eLst, eCall, lCall, listR, eChain, tV, tAndD, tOrD, tNotD, eAnd, eOr, eNot, eIf, eL, lDisp, lList, lRep, oNone, oSome, eSl, iSeq, iRng1, iRng2, iZipD, iEnumD, iRevD, lListRange, lLc, eSorted, eSortSet, eLenSet, eBor, tBor, tYesD, noE, toB, dCmp, dSub, dNeg, dInt, dLen, dIs, dIsNot, List.map_cons, List.map_nil, List.length_cons, List.length_nil, Nat.reduceAdd, Nat.reduceSub, Nat.reduceLeDiff, List.replicate, List.cons_append, List.nil_append, List.append_nil, List.getElem?_cons_zero, List.getElem?_cons_succ, List.set_cons_zero, List.set_cons_succ, if_true, if_false, reduceIte, Bool.not_true, Bool.not_false, Bool.false_eq_true, reduceCtorEq, enumFrom, loopF, es, el, Option.map_some]
theorem rowsOf_map : ∀ rows : List (List Int), rowsOf (rows.map lstI) = some rows
  | [] => rfl
  | r :: rows => by rw [List.map_cons, rowsOf, intsOf_map, rowsOf_map rows]
theorem firstP_isSome {α : Type} {p : α → Bool} {l : List α} : (firstP p l).isSome = l.any p := by
  cases h : firstP p l with
  | none => rw [firstP_none.mp h]; rfl
  | some i =>
    obtain ⟨a, h1, h2⟩ := firstP_some h
    exact (List.any_eq_true.mpr ⟨a, List.mem_of_getElem? h1, h2⟩).symm
section
variable {n : Nat} {cs : List (List Int)} {ws : List Wg} {rows : List (List Int)}
theorem F_first_of {s : List Int} (hs : Pl12 n s) (hrows : ∀ r ∈ rows, r.length = n) {k m : Nat} (hR : ∀ p, Pl12 n p → F_m_fits m [zS cs ws rows, tupI p, .int k] = .ok (.bool (fitI rows k p))) :
    F_m_first (m + 1) [zS cs ws rows, tupI s, .int ((k + 1 : Nat) : Int)] = .ok (optI (firstP (tryI (fitI rows k) s) rows)) := by
  show runF 7 (g_m_first (F_m_fits m) (F_m_first m)) _ = _
  obtain ⟨ρ', el⟩ := first_loop (z := zS cs ws rows) rfl hs (k := k) (f := fitI rows k) (Rf := F_m_fits m) (Rg := F_m_first m) hR rows 0 .no .no .no hrows
  unfold tupI zS selfD rowsD at el
  unfold g_m_first
  simp only [dIx_t0, dIx_t1, dIx_l0, dIx_l1, toItems, itemsOf, runF, runL, startE, endF, endL, R.bind_ok, R.bind_exc, R.bind_stuck, gSeq, gIf, gSet, gOwn, gRet, gRetL, gRetO, gDrop, gTgt, gT, gsC, gsN, gN, gFor, gApp, gExt, gFrz, gNil, gExc, eVar, eC, e1, e2, eA, aNil, aCons, eTup, eLst, eCall, lCall, listR, eChain, tV, tAndD, tOrD, tNotD, eAnd, eOr, eNot, eIf, eL, lDisp, lList, lRep, oNone, oSome, eSl, iSeq, iRng1, iRng2, iZipD, iEnumD, iRevD, lListRange, lLc, eSorted, eSortSet, eLenSet, eBor, tBor, tYesD, noE, toB, dCmp, dSub, dNeg, dInt, dLen, dIs, dIsNot, List.map_cons, List.map_nil, List.length_cons, List.length_nil, Nat.reduceAdd, Nat.reduceSub, Nat.reduceLeDiff, List.replicate, List.cons_append, List.nil_append, List.append_nil, List.getElem?_cons_zero, List.getElem?_cons_succ, List.set_cons_zero, List.set_cons_succ, if_true, if_false, reduceIte, Bool.not_true, Bool.not_false, Bool.false_eq_true, reduceCtorEq, zS, selfD, rowsD, dFld, el]
  cases firstP (tryI (fitI rows k) s) rows with
  | none => simp only [dIx_t0, dIx_t1, dIx_l0, dIx_l1, toItems, itemsOf, runF, runL, startE, endF, endL, R.bind_ok, R.bind_exc, R.bind_stuck, gSeq, gIf, gSet, gOwn, gRet, gRetL, gRetO, gDrop, gTgt, gT, gsC, gsN, gN, gFor, gApp, gExt, gFrz, gNil, gExc, eVar, eC, e1, e2, eA, aNil, aCons, eTup, eLst, eCall, lCall, listR, eChain, tV, tAndD, tOrD, tNotD, eAnd, eOr, eNot, eIf, eL, lDisp, lList, lRep, oNone, oSome, eSl, iSeq, iRng1, iRng2, iZipD, iEnumD, iRevD, lListRange, lLc, eSorted, eSortSet, eLenSet, eBor, tBor, tYesD, noE, toB, dCmp, dSub, dNeg, dInt, dLen, dIs, dIsNot, List.map_cons, List.map_nil, List.length_cons, List.length_nil, Nat.reduceAdd, Nat.reduceSub, Nat.reduceLeDiff, List.replicate, List.cons_append, List.nil_append, List.append_nil, List.getElem?_cons_zero, List.getElem?_cons_succ, List.set_cons_zero, List.set_cons_succ, if_true, if_false, reduceIte, Bool.not_true, Bool.not_false, Bool.false_eq_true, reduceCtorEq, optI]
  | some i => simp only [dIx_t0, dIx_t1, dIx_l0, dIx_l1, toItems, itemsOf, runF, runL, startE, endF, endL, R.bind_ok, R.bind_exc, R.bind_stuck, gSeq, gIf, gSet, gOwn, gRet, gRetL, gRetO, gDrop, gTgt, gT, gsC, gsN, gN, gFor, gApp, gExt, gFrz, gNil, gExc, eVar, eC, e1, e2, eA, aNil, aCons, eTup, eLst, eCall, lCall, listR, eChain, tV, tAndD, tOrD, tNotD, eAnd, eOr, eNot, eIf, eL, lDisp, lList, lRep, oNone, oSome, eSl, iSeq, iRng1, iRng2, iZipD, iEnumD, iRevD, lListRange, lLc, eSorted, eSortSet, eLenSet, eBor, tBor, tYesD, noE, toB, dCmp, dSub, dNeg, dInt, dLen, dIs, dIsNot, List.map_cons, List.map_nil, List.length_cons, List.length_nil, Nat.reduceAdd, Nat.reduceSub, Nat.reduceLeDiff, List.replicate, List.cons_append, List.nil_append, List.append_nil, List.getElem?_cons_zero, List.getElem?_cons_succ, List.set_cons_zero, List.set_cons_succ, if_true, if_false, reduceIte, Bool.not_true, Bool.not_false, Bool.false_eq_true, reduceCtorEq, optI, Nat.zero_add]
theorem F_fits_eq (hrows : ∀ r ∈ rows, r.length = n) : ∀ (k m : Nat) (s : List Int), 2 * k + 1 ≤ m → k < 20 → Pl12 n s → F_m_fits m [zS cs ws rows, tupI s, .int k] = .ok (.bool (fitI rows k s))
  | k, m, s, hm, hk, hs => by
    obtain ⟨m, rfl⟩ : ∃ m', m = m' + 1 := ⟨m - 1, by omega⟩
    show runF 3 (g_m_fits (F_m_fits m) (F_m_first m)) _ = _
    have lt2 : ((s.length : Int) < 2) ↔ s.length < 2 := by omega
    have le := hs.le
    have im := is_many_tup s k (by omega)
    unfold tupI at im
    unfold g_m_fits
    by_cases h2 : s.length < 2
    · simp only [dIx_t0, dIx_t1, dIx_l0, dIx_l1, toItems, itemsOf, runF, runL, startE, endF, endL, R.bind_ok, R.bind_exc, R.bind_stuck, gSeq, gIf, gSet, gOwn, gRet, gRetL, gRetO, gDrop, gTgt, gT, gsC, gsN, gN, gFor, gApp, gExt, gFrz, gNil, gExc, eVar, eC, e1, e2, eA, aNil, aCons, eTup, eLst, eCall, lCall, listR, eChain, tV, tAndD, tOrD, tNotD, eAnd, eOr, eNot, eIf, eL, lDisp, lList, lRep, oNone, oSome, eSl, iSeq, iRng1, iRng2, iZipD, iEnumD, iRevD, lListRange, lLc, eSorted, eSortSet, eLenSet, eBor, tBor, tYesD, noE, toB, dCmp, dSub, dNeg, dInt, dLen, dIs, dIsNot, List.map_cons, List.map_nil, List.length_cons, List.length_nil, Nat.reduceAdd, Nat.reduceSub, Nat.reduceLeDiff, List.replicate, List.cons_append, List.nil_append, List.append_nil, List.getElem?_cons_zero, List.getElem?_cons_succ, List.set_cons_zero, List.set_cons_succ, if_true, if_false, reduceIte, Bool.not_true, Bool.not_false, Bool.false_eq_true, reduceCtorEq, List.length_map, decide_eq_true (lt2.mpr h2)]
      cases k <;> simp [fitI, h2]
    · by_cases h3 : 3 ^ k < s.length
      · simp only [dIx_t0, dIx_t1, dIx_l0, dIx_l1, toItems, itemsOf, runF, runL, startE, endF, endL, R.bind_ok, R.bind_exc, R.bind_stuck, gSeq, gIf, gSet, gOwn, gRet, gRetL, gRetO, gDrop, gTgt, gT, gsC, gsN, gN, gFor, gApp, gExt, gFrz, gNil, gExc, eVar, eC, e1, e2, eA, aNil, aCons, eTup, eLst, eCall, lCall, listR, eChain, tV, tAndD, tOrD, tNotD, eAnd, eOr, eNot, eIf, eL, lDisp, lList, lRep, oNone, oSome, eSl, iSeq, iRng1, iRng2, iZipD, iEnumD, iRevD, lListRange, lLc, eSorted, eSortSet, eLenSet, eBor, tBor, tYesD, noE, toB, dCmp, dSub, dNeg, dInt, dLen, dIs, dIsNot, List.map_cons, List.map_nil, List.length_cons, List.length_nil, Nat.reduceAdd, Nat.reduceSub, Nat.reduceLeDiff, List.replicate, List.cons_append, List.nil_append, List.append_nil, List.getElem?_cons_zero, List.getElem?_cons_succ, List.set_cons_zero, List.set_cons_succ, if_true, if_false, reduceIte, Bool.not_true, Bool.not_false, Bool.false_eq_true, reduceCtorEq, List.length_map, decide_eq_false (fun z => h2 (lt2.mp z)), im, decide_eq_true h3]
        cases k <;> simp [fitI, h2, h3]
      · cases k with
        | zero => simp at h3; omega
        | succ k =>
          obtain ⟨m, rfl⟩ : ∃ m', m = m' + 1 := ⟨m - 1, by omega⟩
          have fe := F_first_of (cs := cs) (ws := ws) hs hrows (k := k) (m := m) fun p hp => F_fits_eq hrows k m p (by omega) (by omega) hp
          have ef : fitI rows (k + 1) s = rows.any (tryI (fitI rows k) s) := by
            rw [fitI, decide_eq_false h2, decide_eq_false h3]
            rfl
          have ei : dIsNot (optI (firstP (tryI (fitI rows k) s) rows)) .none = .ok (.bool (rows.any (tryI (fitI rows k) s))) := by
            rw [← firstP_isSome]
            cases firstP (tryI (fitI rows k) s) rows <;> rfl
          have c20 : (0 : Int) ≤ ((k + 1 : Nat) : Int) ∧ ((k + 1 : Nat) : Int) < 20 ∧ s ∈ subs12 := ⟨by omega, by omega, hs.sub⟩
          have nn : (((k + 1 : Nat) : Int)).toNat = k + 1 := Int.toNat_natCast _
          have e1' := rowsOf_map rows
          unfold lstI at e1'
          unfold tupI zS selfD rowsD at fe
          simp only [dIx_t0, dIx_t1, dIx_l0, dIx_l1, toItems, itemsOf, runF, runL, startE, endF, endL, R.bind_ok, R.bind_exc, R.bind_stuck, gSeq, gIf, gSet, gOwn, gRet, gRetL, gRetO, gDrop, gTgt, gT, gsC, gsN, gN, gFor, gApp, gExt, gFrz, gNil, gExc, eVar, eC, e1, e2, eA, aNil, aCons, eTup, eLst, eCall, lCall, listR, eChain, tV, tAndD, tOrD, tNotD, eAnd, eOr, eNot, eIf, eL, lDisp, lList, lRep, oNone, oSome, eSl, iSeq, iRng1, iRng2, iZipD, iEnumD, iRevD, lListRange, lLc, eSorted, eSortSet, eLenSet, eBor, tBor, tYesD, noE, toB, dCmp, dSub, dNeg, dInt, dLen, dIs, dIsNot, List.map_cons, List.map_nil, List.length_cons, List.length_nil, Nat.reduceAdd, Nat.reduceSub, Nat.reduceLeDiff, List.replicate, List.cons_append, List.nil_append, List.append_nil, List.getElem?_cons_zero, List.getElem?_cons_succ, List.set_cons_zero, List.set_cons_succ, if_true, if_false, reduceIte, Bool.not_true, Bool.not_false, Bool.false_eq_true, reduceCtorEq, List.length_map, decide_eq_false (fun z => h2 (lt2.mp z)), im, decide_eq_false h3, zS, selfD, rowsD]
          simp only [gMemo, List.getElem?_cons_zero, List.getElem?_cons_succ, e1', intsOf_map, if_pos c20, nn, ef]
          have eb := firstP_isSome (p := tryI (fitI rows k) s) (l := rows)
          simp only [dIx_t0, dIx_t1, dIx_l0, dIx_l1, toItems, itemsOf, runF, runL, startE, endF, endL, R.bind_ok, R.bind_exc, R.bind_stuck, gSeq, gIf, gSet, gOwn, gRet, gRetL, gRetO, gDrop, gTgt, gT, gsC, gsN, gN, gFor, gApp, gExt, gFrz, gNil, gExc, eVar, eC, e1, e2, eA, aNil, aCons, eTup, eLst, eCall, lCall, listR, eChain, tV, tAndD, tOrD, tNotD, eAnd, eOr, eNot, eIf, eL, lDisp, lList, lRep, oNone, oSome, eSl, iSeq, iRng1, iRng2, iZipD, iEnumD, iRevD, lListRange, lLc, eSorted, eSortSet, eLenSet, eBor, tBor, tYesD, noE, toB, dCmp, dSub, dNeg, dInt, dLen, dIs, dIsNot, List.map_cons, List.map_nil, List.length_cons, List.length_nil, Nat.reduceAdd, Nat.reduceSub, Nat.reduceLeDiff, List.replicate, List.cons_append, List.nil_append, List.append_nil, List.getElem?_cons_zero, List.getElem?_cons_succ, List.set_cons_zero, List.set_cons_succ, if_true, if_false, reduceIte, Bool.not_true, Bool.not_false, Bool.false_eq_true, reduceCtorEq, eMeth, isSelf, fe]
          rw [← eb]
          cases firstP (tryI (fitI rows k) s) rows with
          | none => simp only [dIx_t0, dIx_t1, dIx_l0, dIx_l1, toItems, itemsOf, runF, runL, startE, endF, endL, R.bind_ok, R.bind_exc, R.bind_stuck, gSeq, gIf, gSet, gOwn, gRet, gRetL, gRetO, gDrop, gTgt, gT, gsC, gsN, gN, gFor, gApp, gExt, gFrz, gNil, gExc, eVar, eC, e1, e2, eA, aNil, aCons, eTup, eLst, eCall, lCall, listR, eChain, tV, tAndD, tOrD, tNotD, eAnd, eOr, eNot, eIf, eL, lDisp, lList, lRep, oNone, oSome, eSl, iSeq, iRng1, iRng2, iZipD, iEnumD, iRevD, lListRange, lLc, eSorted, eSortSet, eLenSet, eBor, tBor, tYesD, noE, toB, dCmp, dSub, dNeg, dInt, dLen, dIs, dIsNot, List.map_cons, List.map_nil, List.length_cons, List.length_nil, Nat.reduceAdd, Nat.reduceSub, Nat.reduceLeDiff, List.replicate, List.cons_append, List.nil_append, List.append_nil, List.getElem?_cons_zero, List.getElem?_cons_succ, List.set_cons_zero, List.set_cons_succ, if_true, if_false, reduceIte, Bool.not_true, Bool.not_false, Bool.false_eq_true, reduceCtorEq, optI, Option.isSome]
          | some i => simp only [dIx_t0, dIx_t1, dIx_l0, dIx_l1, toItems, itemsOf, runF, runL, startE, endF, endL, R.bind_ok, R.bind_exc, R.bind_stuck, gSeq, gIf, gSet, gOwn, gRet, gRetL, gRetO, gDrop, gTgt, gT, gsC, gsN, gN, gFor, gApp, gExt, gFrz, gNil, gExc, eVar, eC, e1, e2, eA, aNil, aCons, eTup, eLst, eCall, lCall, listR, eChain, tV, tAndD, tOrD, tNotD, eAnd, eOr, eNot, eIf, eL, lDisp, lList, lRep, oNone, oSome, eSl, iSeq, iRng1, iRng2, iZipD, iEnumD, iRevD, lListRange, lLc, eSorted, eSortSet, eLenSet, eBor, tBor, tYesD, noE, toB, dCmp, dSub, dNeg, dInt, dLen, dIs, dIsNot, List.map_cons, List.map_nil, List.length_cons, List.length_nil, Nat.reduceAdd, Nat.reduceSub, Nat.reduceLeDiff, List.replicate, List.cons_append, List.nil_append, List.append_nil, List.getElem?_cons_zero, List.getElem?_cons_succ, List.set_cons_zero, List.set_cons_succ, if_true, if_false, reduceIte, Bool.not_true, Bool.not_false, Bool.false_eq_true, reduceCtorEq, optI, Option.isSome]
end
end W

set_option Elab.async false
set_option linter.all false
set_option maxRecDepth 100000
set_option maxHeartbeats 1000000
namespace W
open PySem PL
/-! ### Search, typed: alike -/
def colI (rows : List (List Int)) (k : Nat) : List Int := rows.map fun r => r.getD k 0
def colsI (rows : List (List Int)) (n : Nat) : List (List Int) := (List.range n).map (colI rows)
theorem lstI_sh (s : List Int) : sh 1 (lstI s) := sh_list (sh_ints s)
theorem lstI_inj {s t : List Int} : lstI s = lstI t ↔ s = t := by
  rw [PyData.list.injEq]
  exact map_int_inj
theorem lstI_ex (s : List Int) : exact (lstI s) = true := exact_ints s
theorem lstI_eqv (s t : List Int) : PyData.eqv (lstI s) (lstI t) = decide (s = t) := by
  rw [Bool.eq_iff_iff, decide_eq_true_eq, eqv_exact _ _ (lstI_ex s) (lstI_ex t), lstI_inj]
theorem lsts_sh (ps : List (List Int)) : sh 2 (.list (ps.map lstI)) := sh_list (n := 1) fun x hx => by
  obtain ⟨d, _, rfl⟩ := List.mem_map.mp hx
  exact lstI_sh d
theorem in_lsts (s : List Int) (ps : List (List Int)) : dIn (lstI s) (.list (ps.map lstI)) = .ok (.bool (decide (s ∈ ps))) := by
  have q3 : (SeqAt.shaped (lstI s) && SeqAt.shaped (.list (ps.map lstI))) = true := by
    rw [show SeqAt.shaped (lstI s) = true from shaped_sh (lstI_sh s), shaped_sh (lsts_sh ps)]
    rfl
  unfold dIn
  simp only [q3, if_true]
  congr 3
  rw [Bool.eq_iff_iff, List.any_eq_true, decide_eq_true_eq]
  constructor
  · rintro ⟨x, hx, e⟩
    obtain ⟨p, hp, rfl⟩ := List.mem_map.mp hx
    rw [lstI_eqv, decide_eq_true_eq] at e
    rw [← e]
    exact hp
  · intro h
    exact ⟨lstI s, List.mem_map_of_mem h, by rw [lstI_eqv]; simp⟩
theorem first_at {c : List Int} : ∀ {ps : List (List Int)} {k : Nat}, c ∈ ps.take k → ∃ i, i < k ∧ ps[i]? = some c ∧ firstAt (lstI c) (ps.map lstI) = some i
  | [], k, h => by simp at h
  | p :: ps, 0, h => by simp at h
  | p :: ps, k + 1, h => by
    rw [List.map_cons, firstAt, lstI_eqv]
    by_cases e : p = c
    · exact ⟨0, by omega, by simp [e], by simp [e]⟩
    · rw [List.take_succ_cons, List.mem_cons] at h
      obtain ⟨i, h1, h2, h3⟩ := first_at (h.resolve_left fun z => e z.symm)
      exact ⟨i + 1, by omega, by simpa using h2, by simp [e, h3]⟩
theorem index_lsts {c : List Int} {ps : List (List Int)} {k : Nat} (h : c ∈ ps.take k) : ∃ i, i < k ∧ ps[i]? = some c ∧ dIndex (.list (ps.map lstI)) (lstI c) = .ok (.int (i : Nat)) := by
  obtain ⟨i, h1, h2, h3⟩ := first_at h
  refine ⟨i, h1, h2, ?_⟩
  have q3 : (SeqAt.shaped (.list (ps.map lstI)) && SeqAt.shaped (lstI c)) = true := by
    rw [show SeqAt.shaped (lstI c) = true from shaped_sh (lstI_sh c), shaped_sh (lsts_sh ps)]
    rfl
  unfold dIndex
  simp only [q3, if_true, h3]
section
variable {n : Nat} {cs : List (List Int)} {ws : List Wg} {rows : List (List Int)}
theorem col_len (n : Nat) : (colsI rows n).length = n := by simp [colsI]
theorem col_get {k : Nat} (h : k < n) : (colsI rows n)[k]? = some (colI rows k) := by simp [colsI, h]
theorem col_take {c : List Int} {k : Nat} (hk : k ≤ n) : c ∈ (colsI rows n).take k ↔ ∃ i, i < k ∧ colI rows i = c := by
  unfold colsI
  rw [← List.map_take, List.take_range, Nat.min_eq_left hk, List.mem_map]
  simp only [List.mem_range]
theorem alike_1 (hrows : ∀ r ∈ rows, r.length = n) (hl : rows.length ≤ 1000) {k : Nat} (hk : k < n) (s1 : PL.Slot noObj) : c_m_alike_1 [.val (zS cs ws rows), s1, .val (.int (k : Nat)), .no] = .ok ((colI rows k).map PyData.int) := by
  unfold c_m_alike_1
  simp only [dIx_t0, dIx_t1, dIx_l0, dIx_l1, toItems, itemsOf, runF, runL, startE, endF, endL, R.bind_ok, R.bind_exc, R.bind_stuck, gSeq, gIf, gSet, gOwn, gRet, gRetL, gRetO, gDrop, gTgt, gT, gsC, gsN, gN, gFor, gApp, gExt, gFrz, gNil, gExc, eVar, eC, e1, e2, eA, aNil, aCons, eTup, eLst, eCall, lCall, listR, eChain, tV, tAndD, tOrD, tNotD, eAnd, eOr, eNot, eIf, eL, lDisp, lList, lRep, oNone, oSome, eSl, iSeq, iRng1, iRng2, iZipD, iEnumD, iRevD, lListRange, lLc, eSorted, eSortSet, eLenSet, eBor, tBor, tYesD, noE, toB, dCmp, dSub, dNeg, dInt, dLen, dIs, dIsNot, List.map_cons, List.map_nil, List.length_cons, List.length_nil, Nat.reduceAdd, Nat.reduceSub, Nat.reduceLeDiff, List.replicate, List.cons_append, List.nil_append, List.append_nil, List.getElem?_cons_zero, List.getElem?_cons_succ, List.set_cons_zero, List.set_cons_succ, if_true, if_false, reduceIte, Bool.not_true, Bool.not_false, Bool.false_eq_true, reduceCtorEq, zS, selfD, rowsD, dFld, List.length_map]
  rw [if_pos ⟨by omega, rfl⟩]
  refine noE_of ?_
  rw [colI, List.map_map]
  refine each_map' fun r hr => ?_
  have e := row_at (r := r) (k := (k : Int)) ⟨by omega, by rw [hrows r hr]; omega⟩
  unfold lstI at e
  unfold lcStep
  simp only [dIx_t0, dIx_t1, dIx_l0, dIx_l1, toItems, itemsOf, runF, runL, startE, endF, endL, R.bind_ok, R.bind_exc, R.bind_stuck, gSeq, gIf, gSet, gOwn, gRet, gRetL, gRetO, gDrop, gTgt, gT, gsC, gsN, gN, gFor, gApp, gExt, gFrz, gNil, gExc, eVar, eC, e1, e2, eA, aNil, aCons, eTup, eLst, eCall, lCall, listR, eChain, tV, tAndD, tOrD, tNotD, eAnd, eOr, eNot, eIf, eL, lDisp, lList, lRep, oNone, oSome, eSl, iSeq, iRng1, iRng2, iZipD, iEnumD, iRevD, lListRange, lLc, eSorted, eSortSet, eLenSet, eBor, tBor, tYesD, noE, toB, dCmp, dSub, dNeg, dInt, dLen, dIs, dIsNot, List.map_cons, List.map_nil, List.length_cons, List.length_nil, Nat.reduceAdd, Nat.reduceSub, Nat.reduceLeDiff, List.replicate, List.cons_append, List.nil_append, List.append_nil, List.getElem?_cons_zero, List.getElem?_cons_succ, List.set_cons_zero, List.set_cons_succ, if_true, if_false, reduceIte, Bool.not_true, Bool.not_false, Bool.false_eq_true, reduceCtorEq, wipeE, e]
  rfl
theorem alike_2 (hrows : ∀ r ∈ rows, r.length = n) (hl : rows.length ≤ 1000) (hc : cs.length = n) (hn : n ≤ 12) (s1 : PL.Slot noObj) : c_m_alike_2 [.val (zS cs ws rows), s1, .no, .no] = .ok ((colsI rows n).map lstI) := by
  unfold c_m_alike_2
  simp only [dIx_t0, dIx_t1, dIx_l0, dIx_l1, toItems, itemsOf, runF, runL, startE, endF, endL, R.bind_ok, R.bind_exc, R.bind_stuck, gSeq, gIf, gSet, gOwn, gRet, gRetL, gRetO, gDrop, gTgt, gT, gsC, gsN, gN, gFor, gApp, gExt, gFrz, gNil, gExc, eVar, eC, e1, e2, eA, aNil, aCons, eTup, eLst, eCall, lCall, listR, eChain, tV, tAndD, tOrD, tNotD, eAnd, eOr, eNot, eIf, eL, lDisp, lList, lRep, oNone, oSome, eSl, iSeq, iRng1, iRng2, iZipD, iEnumD, iRevD, lListRange, lLc, eSorted, eSortSet, eLenSet, eBor, tBor, tYesD, noE, toB, dCmp, dSub, dNeg, dInt, dLen, dIs, dIsNot, List.map_cons, List.map_nil, List.length_cons, List.length_nil, Nat.reduceAdd, Nat.reduceSub, Nat.reduceLeDiff, List.replicate, List.cons_append, List.nil_append, List.append_nil, List.getElem?_cons_zero, List.getElem?_cons_succ, List.set_cons_zero, List.set_cons_succ, if_true, if_false, reduceIte, Bool.not_true, Bool.not_false, Bool.false_eq_true, reduceCtorEq, zS, selfD, rowsD, dFld, List.length_map, hc]
  rw [if_pos ⟨by omega, by omega⟩]
  simp only [dIx_t0, dIx_t1, dIx_l0, dIx_l1, toItems, itemsOf, runF, runL, startE, endF, endL, R.bind_ok, R.bind_exc, R.bind_stuck, gSeq, gIf, gSet, gOwn, gRet, gRetL, gRetO, gDrop, gTgt, gT, gsC, gsN, gN, gFor, gApp, gExt, gFrz, gNil, gExc, eVar, eC, e1, e2, eA, aNil, aCons, eTup, eLst, eCall, lCall, listR, eChain, tV, tAndD, tOrD, tNotD, eAnd, eOr, eNot, eIf, eL, lDisp, lList, lRep, oNone, oSome, eSl, iSeq, iRng1, iRng2, iZipD, iEnumD, iRevD, lListRange, lLc, eSorted, eSortSet, eLenSet, eBor, tBor, tYesD, noE, toB, dCmp, dSub, dNeg, dInt, dLen, dIs, dIsNot, List.map_cons, List.map_nil, List.length_cons, List.length_nil, Nat.reduceAdd, Nat.reduceSub, Nat.reduceLeDiff, List.replicate, List.cons_append, List.nil_append, List.append_nil, List.getElem?_cons_zero, List.getElem?_cons_succ, List.set_cons_zero, List.set_cons_succ, if_true, if_false, reduceIte, Bool.not_true, Bool.not_false, Bool.false_eq_true, reduceCtorEq, rd_ints', List.length_map, List.length_range]
  rw [if_pos ⟨by omega, rfl⟩]
  refine noE_of ?_
  rw [colsI, List.map_map]
  refine each_map' fun k hk => ?_
  have e := alike_1 (cs := cs) (ws := ws) hrows hl (List.mem_range.mp hk) s1
  unfold zS selfD rowsD at e
  unfold lcStep
  simp only [dIx_t0, dIx_t1, dIx_l0, dIx_l1, toItems, itemsOf, runF, runL, startE, endF, endL, R.bind_ok, R.bind_exc, R.bind_stuck, gSeq, gIf, gSet, gOwn, gRet, gRetL, gRetO, gDrop, gTgt, gT, gsC, gsN, gN, gFor, gApp, gExt, gFrz, gNil, gExc, eVar, eC, e1, e2, eA, aNil, aCons, eTup, eLst, eCall, lCall, listR, eChain, tV, tAndD, tOrD, tNotD, eAnd, eOr, eNot, eIf, eL, lDisp, lList, lRep, oNone, oSome, eSl, iSeq, iRng1, iRng2, iZipD, iEnumD, iRevD, lListRange, lLc, eSorted, eSortSet, eLenSet, eBor, tBor, tYesD, noE, toB, dCmp, dSub, dNeg, dInt, dLen, dIs, dIsNot, List.map_cons, List.map_nil, List.length_cons, List.length_nil, Nat.reduceAdd, Nat.reduceSub, Nat.reduceLeDiff, List.replicate, List.cons_append, List.nil_append, List.append_nil, List.getElem?_cons_zero, List.getElem?_cons_succ, List.set_cons_zero, List.set_cons_succ, if_true, if_false, reduceIte, Bool.not_true, Bool.not_false, Bool.false_eq_true, reduceCtorEq, wipeE, e]
  rfl
theorem alike_loop (hc : cs.length = n) (hn : n ≤ 12) : ∀ (ks : List Nat) (s2 : PL.Slot noObj), (∀ k ∈ ks, k < n) →
    ((∀ k ∈ ks, ∀ i, i < k → colI rows i ≠ colI rows k) ∧ ∃ ρ', loopF (gN 2) g_m_alike_L1 (ks.map fun i : Nat => PyData.int i) [.val (zS cs ws rows), .val (.list ((colsI rows n).map lstI)), s2, .no] = .ok (.nx, ρ')) ∨
    (∃ i k a b ρ', i < k ∧ k < n ∧ colI rows i = colI rows k ∧ cs[i]? = some a ∧ cs[k]? = some b ∧ loopF (gN 2) g_m_alike_L1 (ks.map fun i : Nat => PyData.int i) [.val (zS cs ws rows), .val (.list ((colsI rows n).map lstI)), s2, .no] = .ok (.rt (.tuple [encC a, encC b]), ρ'))
  | [], s2, _ => .inl ⟨fun k h => (List.not_mem_nil h).elim, _, rfl⟩
  | k :: ks, s2, h => by
    have hk := h k (List.mem_cons_self ..)
    have k1 : dIx (.list ((colsI rows n).map lstI)) (.int (k : Nat)) = .ok (lstI (colI rows k)) := dIx_list (by omega) (by rw [Int.toNat_natCast, List.getElem?_map, col_get hk]; rfl)
    have k2 : cutD ((colsI rows n).map lstI) none (some (k : Int)) = ((colsI rows n).take k).map lstI := by
      rw [cutD_take _ _ (by rw [List.length_map, col_len]; omega), List.map_take]
    have k3 := in_lsts (colI rows k) ((colsI rows n).take k)
    by_cases hb : colI rows k ∈ (colsI rows n).take k
    · right
      obtain ⟨i, h1, h2, h3⟩ := index_lsts hb
      have ei : colI rows i = colI rows k := by
        rw [col_get (by omega)] at h2
        exact Option.some.inj h2
      obtain ⟨a, ha⟩ : ∃ a, cs[i]? = some a := ⟨_, List.getElem?_eq_getElem (by omega)⟩
      obtain ⟨b, hb'⟩ : ∃ b, cs[k]? = some b := ⟨_, List.getElem?_eq_getElem (by omega)⟩
      have da : dIx (.list (cs.map encC)) (.int (i : Nat)) = .ok (encC a) := dIx_list (by omega) (by rw [Int.toNat_natCast, List.getElem?_map, ha]; rfl)
      have db : dIx (.list (cs.map encC)) (.int (k : Nat)) = .ok (encC b) := dIx_list (by omega) (by rw [Int.toNat_natCast, List.getElem?_map, hb']; rfl)
      refine ⟨i, k, a, b, [.val (zS cs ws rows), .val (.list ((colsI rows n).map lstI)), .val (.int (k : Nat)), .no], h1, hk, ei, ha, hb', ?_⟩
      rw [List.map_cons]
      unfold loopF g_m_alike_L1
      simp only [dIx_t0, dIx_t1, dIx_l0, dIx_l1, toItems, itemsOf, runF, runL, startE, endF, endL, R.bind_ok, R.bind_exc, R.bind_stuck, gSeq, gIf, gSet, gOwn, gRet, gRetL, gRetO, gDrop, gTgt, gT, gsC, gsN, gN, gFor, gApp, gExt, gFrz, gNil, gExc, eVar, eC, e1, e2, eA, aNil, aCons, eTup, eLst, eCall, lCall, listR, eChain, tV, tAndD, tOrD, tNotD, eAnd, eOr, eNot, eIf, eL, lDisp, lList, lRep, oNone, oSome, eSl, iSeq, iRng1, iRng2, iZipD, iEnumD, iRevD, lListRange, lLc, eSorted, eSortSet, eLenSet, eBor, tBor, tYesD, noE, toB, dCmp, dSub, dNeg, dInt, dLen, dIs, dIsNot, List.map_cons, List.map_nil, List.length_cons, List.length_nil, Nat.reduceAdd, Nat.reduceSub, Nat.reduceLeDiff, List.replicate, List.cons_append, List.nil_append, List.append_nil, List.getElem?_cons_zero, List.getElem?_cons_succ, List.set_cons_zero, List.set_cons_succ, if_true, if_false, reduceIte, Bool.not_true, Bool.not_false, Bool.false_eq_true, reduceCtorEq, k1, dSl, k2, k3, decide_eq_true hb, zS, selfD, dFld, h3, da, db]
    · have es : g_m_alike_L1 [.val (zS cs ws rows), .val (.list ((colsI rows n).map lstI)), .val (.int (k : Nat)), .no] = .ok (.nx, [.val (zS cs ws rows), .val (.list ((colsI rows n).map lstI)), .val (.int (k : Nat)), .no]) := by
        unfold g_m_alike_L1
        simp only [dIx_t0, dIx_t1, dIx_l0, dIx_l1, toItems, itemsOf, runF, runL, startE, endF, endL, R.bind_ok, R.bind_exc, R.bind_stuck, gSeq, gIf, gSet, gOwn, gRet, gRetL, gRetO, gDrop, gTgt, gT, gsC, gsN, gN, gFor, gApp, gExt, gFrz, gNil, gExc, eVar, eC, e1, e2, eA, aNil, aCons, eTup, eLst, eCall, lCall, listR, eChain, tV, tAndD, tOrD, tNotD, eAnd, eOr, eNot, eIf, eL, lDisp, lList, lRep, oNone, oSome, eSl, iSeq, iRng1, iRng2, iZipD, iEnumD, iRevD, lListRange, lLc, eSorted, eSortSet, eLenSet, eBor, tBor, tYesD, noE, toB, dCmp, dSub, dNeg, dInt, dLen, dIs, dIsNot, List.map_cons, List.map_nil, List.length_cons, List.length_nil, Nat.reduceAdd, Nat.reduceSub, Nat.reduceLeDiff, List.replicate, List.cons_append, List.nil_append, List.append_nil, List.getElem?_cons_zero, List.getElem?_cons_succ, List.set_cons_zero, List.set_cons_succ, if_true, if_false, reduceIte, Bool.not_true, Bool.not_false, Bool.false_eq_true, reduceCtorEq, k1, dSl, k2, k3, decide_eq_false hb]
      have el : loopF (gN 2) g_m_alike_L1 ((k :: ks).map fun i : Nat => PyData.int i) [.val (zS cs ws rows), .val (.list ((colsI rows n).map lstI)), s2, .no] = loopF (gN 2) g_m_alike_L1 (ks.map fun i : Nat => PyData.int i) [.val (zS cs ws rows), .val (.list ((colsI rows n).map lstI)), .val (.int (k : Nat)), .no] := by
        rw [List.map_cons]
        conv => lhs; unfold loopF
        simp only [dIx_t0, dIx_t1, dIx_l0, dIx_l1, toItems, itemsOf, runF, runL, startE, endF, endL, R.bind_ok, R.bind_exc, R.bind_stuck, gSeq, gIf, gSet, gOwn, gRet, gRetL, gRetO, gDrop, gTgt, gT, gsC, gsN, gN, gFor, gApp, gExt, gFrz, gNil, gExc, eVar, eC, e1, e2, eA, aNil, aCons, eTup, eLst, eCall, lCall, listR, eChain, tV, tAndD, tOrD, tNotD, eAnd, eOr, eNot, eIf, eL, lDisp, lList, lRep, oNone, oSome, eSl, iSeq, iRng1, iRng2, iZipD, iEnumD, iRevD, lListRange, lLc, eSorted, eSortSet, eLenSet, eBor, tBor, tYesD, noE, toB, dCmp, dSub, dNeg, dInt, dLen, dIs, dIsNot, List.map_cons, List.map_nil, List.length_cons, List.length_nil, Nat.reduceAdd, Nat.reduceSub, Nat.reduceLeDiff, List.replicate, List.cons_append, List.nil_append, List.append_nil, List.getElem?_cons_zero, List.getElem?_cons_succ, List.set_cons_zero, List.set_cons_succ, if_true, if_false, reduceIte, Bool.not_true, Bool.not_false, Bool.false_eq_true, reduceCtorEq, es]
      rw [el]
      rcases alike_loop hc hn ks (.val (.int (k : Nat))) fun q hq => h q (List.mem_cons_of_mem _ hq) with ⟨h1, h2⟩ | h2
      · refine .inl ⟨fun q hq => ?_, h2⟩
        rcases List.mem_cons.mp hq with rfl | hq
        · exact fun i hi e => hb ((col_take (by omega)).mpr ⟨i, hi, e⟩)
        · exact h1 q hq
      · exact .inr h2
theorem F_alike_eq (hrows : ∀ r ∈ rows, r.length = n) (hl : rows.length ≤ 1000) (hc : cs.length = n) (hn : n ≤ 12) :
    (F_m_alike [zS cs ws rows] = .ok .none ∧ ∀ i k, i < k → k < n → colI rows i ≠ colI rows k) ∨
    (∃ i k a b, i < k ∧ k < n ∧ colI rows i = colI rows k ∧ cs[i]? = some a ∧ cs[k]? = some b ∧ F_m_alike [zS cs ws rows] = .ok (.tuple [encC a, encC b])) := by
  have k2 := alike_2 (cs := cs) (ws := ws) hrows hl hc hn .no
  unfold F_m_alike g_m_alike
  have rd : rangeD 0 ((n : Nat) : Int) = (List.range n).map fun i : Nat => PyData.int i := rd_ints' n
  rcases alike_loop (ws := ws) (rows := rows) hc hn (List.range n) .no (fun k hk => List.mem_range.mp hk) with ⟨h1, ρ', h2⟩ | ⟨i, k, a, b, ρ', h1, h2, h3, h4, h5, h6⟩
  · refine .inl ⟨?_, fun i k hi hk => h1 k (List.mem_range.mpr hk) i hi⟩
    simp only [dIx_t0, dIx_t1, dIx_l0, dIx_l1, toItems, itemsOf, runF, runL, startE, endF, endL, R.bind_ok, R.bind_exc, R.bind_stuck, gSeq, gIf, gSet, gOwn, gRet, gRetL, gRetO, gDrop, gTgt, gT, gsC, gsN, gN, gFor, gApp, gExt, gFrz, gNil, gExc, eVar, eC, e1, e2, eA, aNil, aCons, eTup, eLst, eCall, lCall, listR, eChain, tV, tAndD, tOrD, tNotD, eAnd, eOr, eNot, eIf, eL, lDisp, lList, lRep, oNone, oSome, eSl, iSeq, iRng1, iRng2, iZipD, iEnumD, iRevD, lListRange, lLc, eSorted, eSortSet, eLenSet, eBor, tBor, tYesD, noE, toB, dCmp, dSub, dNeg, dInt, dLen, dIs, dIsNot, List.map_cons, List.map_nil, List.length_cons, List.length_nil, Nat.reduceAdd, Nat.reduceSub, Nat.reduceLeDiff, List.replicate, List.cons_append, List.nil_append, List.append_nil, List.getElem?_cons_zero, List.getElem?_cons_succ, List.set_cons_zero, List.set_cons_succ, if_true, if_false, reduceIte, Bool.not_true, Bool.not_false, Bool.false_eq_true, reduceCtorEq, k2, List.length_map, col_len]
    rw [if_pos ⟨by omega, by omega⟩]
    simp only [dIx_t0, dIx_t1, dIx_l0, dIx_l1, toItems, itemsOf, runF, runL, startE, endF, endL, R.bind_ok, R.bind_exc, R.bind_stuck, gSeq, gIf, gSet, gOwn, gRet, gRetL, gRetO, gDrop, gTgt, gT, gsC, gsN, gN, gFor, gApp, gExt, gFrz, gNil, gExc, eVar, eC, e1, e2, eA, aNil, aCons, eTup, eLst, eCall, lCall, listR, eChain, tV, tAndD, tOrD, tNotD, eAnd, eOr, eNot, eIf, eL, lDisp, lList, lRep, oNone, oSome, eSl, iSeq, iRng1, iRng2, iZipD, iEnumD, iRevD, lListRange, lLc, eSorted, eSortSet, eLenSet, eBor, tBor, tYesD, noE, toB, dCmp, dSub, dNeg, dInt, dLen, dIs, dIsNot, List.map_cons, List.map_nil, List.length_cons, List.length_nil, Nat.reduceAdd, Nat.reduceSub, Nat.reduceLeDiff, List.replicate, List.cons_append, List.nil_append, List.append_nil, List.getElem?_cons_zero, List.getElem?_cons_succ, List.set_cons_zero, List.set_cons_succ, if_true, if_false, reduceIte, Bool.not_true, Bool.not_false, Bool.false_eq_true, reduceCtorEq, rd, h2]
  · refine .inr ⟨i, k, a, b, h1, h2, h3, h4, h5, ?_⟩
    simp only [dIx_t0, dIx_t1, dIx_l0, dIx_l1, toItems, itemsOf, runF, runL, startE, endF, endL, R.bind_ok, R.bind_exc, R.bind_stuck, gSeq, gIf, gSet, gOwn, gRet, gRetL, gRetO, gDrop, gTgt, gT, gsC, gsN, gN, gFor, gApp, gExt, gFrz, gNil, gExc, eVar, eC, e1, e2, eA, aNil, aCons, eTup, eLst, eCall, lCall, listR, eChain, tV, tAndD, tOrD, tNotD, eAnd, eOr, eNot, eIf, eL, lDisp, lList, lRep, oNone, oSome, eSl, iSeq, iRng1, iRng2, iZipD, iEnumD, iRevD, lListRange, lLc, eSorted, eSortSet, eLenSet, eBor, tBor, tYesD, noE, toB, dCmp, dSub, dNeg, dInt, dLen, dIs, dIsNot, List.map_cons, List.map_nil, List.length_cons, List.length_nil, Nat.reduceAdd, Nat.reduceSub, Nat.reduceLeDiff, List.replicate, List.cons_append, List.nil_append, List.append_nil, List.getElem?_cons_zero, List.getElem?_cons_succ, List.set_cons_zero, List.set_cons_succ, if_true, if_false, reduceIte, Bool.not_true, Bool.not_false, Bool.false_eq_true, reduceCtorEq, k2, List.length_map, col_len]
    rw [if_pos ⟨by omega, by omega⟩]
    simp only [dIx_t0, dIx_t1, dIx_l0, dIx_l1, toItems, itemsOf, runF, runL, startE, endF, endL, R.bind_ok, R.bind_exc, R.bind_stuck, gSeq, gIf, gSet, gOwn, gRet, gRetL, gRetO, gDrop, gTgt, gT, gsC, gsN, gN, gFor, gApp, gExt, gFrz, gNil, gExc, eVar, eC, e1, e2, eA, aNil, aCons, eTup, eLst, eCall, lCall, listR, eChain, tV, tAndD, tOrD, tNotD, eAnd, eOr, eNot, eIf, eL, lDisp, lList, lRep, oNone, oSome, eSl, iSeq, iRng1, iRng2, iZipD, iEnumD, iRevD, lListRange, lLc, eSorted, eSortSet, eLenSet, eBor, tBor, tYesD, noE, toB, dCmp, dSub, dNeg, dInt, dLen, dIs, dIsNot, List.map_cons, List.map_nil, List.length_cons, List.length_nil, Nat.reduceAdd, Nat.reduceSub, Nat.reduceLeDiff, List.replicate, List.cons_append, List.nil_append, List.append_nil, List.getElem?_cons_zero, List.getElem?_cons_succ, List.set_cons_zero, List.set_cons_succ, if_true, if_false, reduceIte, Bool.not_true, Bool.not_false, Bool.false_eq_true, reduceCtorEq, rd, h6]
end
end W

set_option Elab.async false
set_option linter.all false
set_option maxRecDepth 100000
set_option maxHeartbeats 1000000
namespace W
open PySem PL
/-! ### what fits, in plain -/
theorem fit_lt {rows : List (List Int)} {s : List Int} (h : s.length < 2) (k : Nat) : fitI rows k s = true := by
  cases k <;> simp [fitI, h]
theorem fit_zero {rows : List (List Int)} {s : List Int} : fitI rows 0 s = true ↔ s.length < 2 := by
  constructor
  · intro h
    by_cases h2 : s.length < 2
    · exact h2
    · simp [fitI] at h; omega
  · exact fun h => fit_lt h 0
theorem fit_succ {rows : List (List Int)} {s : List Int} {k : Nat} (h2 : ¬ s.length < 2) : fitI rows (k + 1) s = true ↔ s.length ≤ 3 ^ (k + 1) ∧ rows.any (tryI (fitI rows k) s) = true := by
  rw [fitI, decide_eq_false h2, Bool.false_or, Bool.and_eq_true, Bool.not_eq_true', decide_eq_false_iff_not, Nat.not_lt]
theorem fit_le {rows : List (List Int)} {s : List Int} {k : Nat} (h : fitI rows k s = true) : s.length ≤ 3 ^ k := by
  by_cases h2 : s.length < 2
  · have := pow3_pos k
    omega
  · cases k with
    | zero => exact absurd (fit_zero.mp h) h2
    | succ k => exact ((fit_succ h2).mp h).1
theorem try_mono {f g : List Int → Bool} {s r : List Int} (hfg : ∀ p, f p = true → g p = true) (h : tryI f s r = true) : tryI g s r = true := by
  unfold tryI at h ⊢
  rw [Bool.and_eq_true, List.all_eq_true] at h ⊢
  exact ⟨h.1, fun p hp => hfg p (h.2 p hp)⟩
theorem fit_mono1 {rows : List (List Int)} : ∀ (k : Nat) {s : List Int}, fitI rows k s = true → fitI rows (k + 1) s = true
  | 0, s, h => fit_lt (fit_zero.mp h) _
  | k + 1, s, h => by
    by_cases h2 : s.length < 2
    · exact fit_lt h2 _
    · obtain ⟨h3, h4⟩ := (fit_succ h2).mp h
      obtain ⟨r, hr, ht⟩ := List.any_eq_true.mp h4
      refine (fit_succ h2).mpr ⟨?_, List.any_eq_true.mpr ⟨r, hr, try_mono (fun p => fit_mono1 k) ht⟩⟩
      have : 3 ^ (k + 1 + 1) = 3 * 3 ^ (k + 1) := by rw [Nat.pow_succ]; omega
      omega
theorem fit_mono {rows : List (List Int)} {s : List Int} {j k : Nat} (hjk : j ≤ k) (h : fitI rows j s = true) : fitI rows k s = true := by
  obtain ⟨d, rfl⟩ := Nat.le.dest hjk
  clear hjk
  induction d with
  | zero => exact h
  | succ d ih => exact fit_mono1 _ ih
/-- no two columns alike -/
def Apart (n : Nat) (rows : List (List Int)) : Prop := ∀ i j : Int, 0 ≤ i → i < n → 0 ≤ j → j < n → i ≠ j → ∃ r ∈ rows, r.getD i.toNat 0 ≠ r.getD j.toNat 0
theorem apart_of {n : Nat} {rows : List (List Int)} (h : ∀ i k, i < k → k < n → colI rows i ≠ colI rows k) : Apart n rows := by
  have key : ∀ i k : Nat, i < k → k < n → ∃ r ∈ rows, r.getD i 0 ≠ r.getD k 0 := fun i k hi hk => by
    apply Classical.byContradiction
    intro hn
    refine h i k hi hk ?_
    unfold colI
    refine List.map_congr_left fun r hr => ?_
    apply Classical.byContradiction
    intro z
    exact hn ⟨r, hr, z⟩
  intro i j h0 h1 h2 h3 hij
  rcases Int.lt_or_gt_of_ne hij with h | h
  · exact key i.toNat j.toNat (by omega) (by omega)
  · obtain ⟨r, hr, e⟩ := key j.toNat i.toNat (by omega) (by omega)
    exact ⟨r, hr, Ne.symm e⟩
theorem subs_nodup {s : List Int} (h : s ∈ subs12) : s.Nodup := by
  have : ([0, 1, 2, 3, 4, 5, 6, 7, 8, 9, 10, 11] : List Int).Nodup := by decide
  exact (subsI_mem.mp h).nodup this
theorem pow3_ge (k : Nat) : k + 1 ≤ 3 ^ k := by
  induction k with
  | zero => decide
  | succ k ih =>
    have : 3 ^ (k + 1) = 3 * 3 ^ k := by rw [Nat.pow_succ]; omega
    omega
theorem part_lt {s r : List Int} {d i : Int} (hi : i ∈ s) (h : r.getD i.toNat 0 ≠ d) : (idxI s r d).length < s.length := by
  have hs := idx_sub s r d
  rcases Nat.lt_or_ge (idxI s r d).length s.length with h1 | h1
  · exact h1
  · have e := hs.eq_of_length (Nat.le_antisymm hs.length_le h1)
    have : i ∈ idxI s r d := by rw [e]; exact hi
    exact absurd (of_decide_eq_true (List.mem_filter.mp this).2) h
theorem fit_ex {n : Nat} {rows : List (List Int)} (hA : Apart n rows) : ∀ (k : Nat) (s : List Int), Pl12 n s → s.length ≤ k + 1 → fitI rows k s = true
  | 0, s, _, hl => fit_lt (by omega) 0
  | k + 1, s, hs, hl => by
    by_cases h2 : s.length < 2
    · exact fit_lt h2 _
    · refine (fit_succ h2).mpr ⟨Nat.le_trans hl (pow3_ge (k + 1)), ?_⟩
      obtain ⟨a, b, t, rfl⟩ : ∃ a b t, s = a :: b :: t := by
        match s, h2 with
        | [], h => simp at h
        | [_], h => simp at h
        | a :: b :: t, _ => exact ⟨a, b, t, rfl⟩
      have nd := subs_nodup hs.sub
      have hab : a ≠ b := fun e => by
        rw [List.nodup_cons] at nd
        exact nd.1 (e ▸ List.mem_cons_self ..)
      have ha := hs.i a (by simp)
      have hb := hs.i b (by simp)
      obtain ⟨r, hr, hne⟩ := hA a b ha.1 ha.2 hb.1 hb.2 hab
      have lt : ∀ d, (idxI (a :: b :: t) r d).length < (a :: b :: t).length := fun d => by
        by_cases hd : r.getD a.toNat 0 = d
        · exact part_lt (i := b) (by simp) fun e => hne (hd.trans e.symm)
        · exact part_lt (i := a) (by simp) hd
      refine List.any_eq_true.mpr ⟨r, hr, ?_⟩
      unfold tryI
      rw [Bool.and_eq_true, Bool.not_eq_true', decide_eq_false_iff_not, List.all_eq_true]
      have mem : ∀ p ∈ partsI r (a :: b :: t), ∃ d, p = idxI (a :: b :: t) r d := fun p hp => by
        simp only [partsI, List.mem_cons, List.not_mem_nil, or_false] at hp
        rcases hp with rfl | rfl | rfl <;> exact ⟨_, rfl⟩
      refine ⟨fun hm => ?_, fun p hp => ?_⟩
      · obtain ⟨d, e⟩ := mem _ hm
        have := lt d
        rw [← e] at this
        omega
      · obtain ⟨d, rfl⟩ := mem _ hp
        exact fit_ex hA k _ (hs.idx r d) (by have := lt d; omega)
/-- all places -/
def fullI (n : Nat) : List Int := (List.range n).map fun i : Nat => (i : Int)
theorem full_pl {n : Nat} (hn : n ≤ 12) : Pl12 n (fullI n) := by
  refine ⟨fun k hk => ?_, ?_, by simp [fullI]; omega⟩
  · obtain ⟨i, hi, rfl⟩ := List.mem_map.mp hk
    have := List.mem_range.mp hi
    omega
  · refine subsI_mem.mpr ?_
    have : ∀ n ≤ 12, (fullI n).isSublist [0, 1, 2, 3, 4, 5, 6, 7, 8, 9, 10, 11] = true := by decide
    exact List.isSublist_iff_sublist.mp (this n hn)
theorem least_of (p : Nat → Bool) (N : Nat) (h : p N = true) : ∃ L, L ≤ N ∧ p L = true ∧ ∀ j, j < L → p j = false := by
  induction N using Nat.strongRecOn with
  | ind N ih =>
    by_cases hN : ∃ j, j < N ∧ p j = true
    · obtain ⟨j, hj, hp⟩ := hN
      obtain ⟨L, h1, h2, h3⟩ := ih j hj hp
      exact ⟨L, by omega, h2, h3⟩
    · refine ⟨N, Nat.le_refl _, h, fun j hj => ?_⟩
      cases e : p j with
      | false => rfl
      | true => exact absurd ⟨j, hj, e⟩ hN
/-- the least number for all -/
structure Least (rows : List (List Int)) (n L : Nat) : Prop where
  le : L ≤ 11
  fit : fitI rows L (fullI n) = true
  lt : ∀ j, j < L → fitI rows j (fullI n) = false
theorem least_ex {n : Nat} {rows : List (List Int)} (hn : n ≤ 12) (hA : Apart n rows) : ∃ L, Least rows n L := by
  have h := full_pl hn
  obtain ⟨L, h1, h2, h3⟩ := least_of (fun k => fitI rows k (fullI n)) 11 (fit_ex hA 11 _ h h.le)
  exact ⟨L, h1, h2, h3⟩
section
variable {n : Nat} {cs : List (List Int)} {ws : List Wg} {rows : List (List Int)}
theorem tupRange_full (n : Nat) : PyData.tuple (rangeD 0 (n : Int)) = tupI (fullI n) := by
  rw [rd_ints', fullI, tupI, List.map_map]
  rfl
abbrev leastT : PL.Env noObj → PL.R Bool := (tNotD (tV (eMeth 3 (F_m_fits 60) (eVar 0) (aCons (eTupRange (eA dLen (aCons (e1 (dFld 0) (eVar 0)) aNil))) (aCons (eVar 1) aNil)))))
theorem least_loop (hc : cs.length = n) (hn : n ≤ 12) (hrows : ∀ r ∈ rows, r.length = n) {L : Nat} (hL : Least rows n L) : ∀ (d k m : Nat), k + d = L → d < m →
    whileF leastT g_m_least_L1 m [.val (zS cs ws rows), .val (.int (k : Nat))] = .ok (.nx, [.val (zS cs ws rows), .val (.int (L : Nat))])
  | d, k, 0, _, hm => absurd hm (Nat.not_lt_zero _)
  | d, k, m + 1, hd, hm => by
    have le := hL.le
    have fe := F_fits_eq (cs := cs) (ws := ws) hrows k 60 (fullI n) (by omega) (by omega) (full_pl hn)
    have et : leastT [.val (zS cs ws rows), .val (.int (k : Nat))] = .ok (!fitI rows k (fullI n)) := by
      have self := self_zS cs ws rows
      have q : (-100000 ≤ (n : Int) ∧ (n : Int) ≤ 100000) := by omega
      have fl : dFld 0 (zS cs ws rows) = .ok (.list (cs.map encC)) := rfl
      unfold leastT
      simp only [dIx_t0, dIx_t1, dIx_l0, dIx_l1, toItems, itemsOf, runF, runL, startE, endF, endL, R.bind_ok, R.bind_exc, R.bind_stuck, gSeq, gIf, gSet, gOwn, gRet, gRetL, gRetO, gDrop, gTgt, gT, gsC, gsN, gN, gFor, gApp, gExt, gFrz, gNil, gExc, eVar, eC, e1, e2, eA, aNil, aCons, eTup, eLst, eCall, lCall, listR, eChain, tV, tAndD, tOrD, tNotD, eAnd, eOr, eNot, eIf, eL, lDisp, lList, lRep, oNone, oSome, eSl, iSeq, iRng1, iRng2, iZipD, iEnumD, iRevD, lListRange, lLc, eSorted, eSortSet, eLenSet, eBor, tBor, tYesD, noE, toB, dCmp, dSub, dNeg, dInt, dLen, dIs, dIsNot, List.map_cons, List.map_nil, List.length_cons, List.length_nil, Nat.reduceAdd, Nat.reduceSub, Nat.reduceLeDiff, List.replicate, List.cons_append, List.nil_append, List.append_nil, List.getElem?_cons_zero, List.getElem?_cons_succ, List.set_cons_zero, List.set_cons_succ, if_true, if_false, reduceIte, Bool.not_true, Bool.not_false, Bool.false_eq_true, reduceCtorEq, eMeth, eTupRange, self, fl, List.length_map, hc, if_pos q, tupRange_full, fe]
    unfold whileF
    rw [et, R.bind_ok]
    cases d with
    | zero =>
      have e : k = L := by omega
      subst e
      rw [hL.fit]
      simp only [dIx_t0, dIx_t1, dIx_l0, dIx_l1, toItems, itemsOf, runF, runL, startE, endF, endL, R.bind_ok, R.bind_exc, R.bind_stuck, gSeq, gIf, gSet, gOwn, gRet, gRetL, gRetO, gDrop, gTgt, gT, gsC, gsN, gN, gFor, gApp, gExt, gFrz, gNil, gExc, eVar, eC, e1, e2, eA, aNil, aCons, eTup, eLst, eCall, lCall, listR, eChain, tV, tAndD, tOrD, tNotD, eAnd, eOr, eNot, eIf, eL, lDisp, lList, lRep, oNone, oSome, eSl, iSeq, iRng1, iRng2, iZipD, iEnumD, iRevD, lListRange, lLc, eSorted, eSortSet, eLenSet, eBor, tBor, tYesD, noE, toB, dCmp, dSub, dNeg, dInt, dLen, dIs, dIsNot, List.map_cons, List.map_nil, List.length_cons, List.length_nil, Nat.reduceAdd, Nat.reduceSub, Nat.reduceLeDiff, List.replicate, List.cons_append, List.nil_append, List.append_nil, List.getElem?_cons_zero, List.getElem?_cons_succ, List.set_cons_zero, List.set_cons_succ, if_true, if_false, reduceIte, Bool.not_true, Bool.not_false, Bool.false_eq_true, reduceCtorEq]
    | succ d =>
      rw [hL.lt k (by omega)]
      have es : g_m_least_L1 [.val (zS cs ws rows), .val (.int (k : Nat))] = .ok (.nx, [.val (zS cs ws rows), .val (.int ((k + 1 : Nat) : Int))]) := by
        unfold g_m_least_L1
        simp only [dIx_t0, dIx_t1, dIx_l0, dIx_l1, toItems, itemsOf, runF, runL, startE, endF, endL, R.bind_ok, R.bind_exc, R.bind_stuck, gSeq, gIf, gSet, gOwn, gRet, gRetL, gRetO, gDrop, gTgt, gT, gsC, gsN, gN, gFor, gApp, gExt, gFrz, gNil, gExc, eVar, eC, e1, e2, eA, aNil, aCons, eTup, eLst, eCall, lCall, listR, eChain, tV, tAndD, tOrD, tNotD, eAnd, eOr, eNot, eIf, eL, lDisp, lList, lRep, oNone, oSome, eSl, iSeq, iRng1, iRng2, iZipD, iEnumD, iRevD, lListRange, lLc, eSorted, eSortSet, eLenSet, eBor, tBor, tYesD, noE, toB, dCmp, dSub, dNeg, dInt, dLen, dIs, dIsNot, List.map_cons, List.map_nil, List.length_cons, List.length_nil, Nat.reduceAdd, Nat.reduceSub, Nat.reduceLeDiff, List.replicate, List.cons_append, List.nil_append, List.append_nil, List.getElem?_cons_zero, List.getElem?_cons_succ, List.set_cons_zero, List.set_cons_succ, if_true, if_false, reduceIte, Bool.not_true, Bool.not_false, Bool.false_eq_true, reduceCtorEq, dAdd]
        rfl
      simp only [dIx_t0, dIx_t1, dIx_l0, dIx_l1, toItems, itemsOf, runF, runL, startE, endF, endL, R.bind_ok, R.bind_exc, R.bind_stuck, gSeq, gIf, gSet, gOwn, gRet, gRetL, gRetO, gDrop, gTgt, gT, gsC, gsN, gN, gFor, gApp, gExt, gFrz, gNil, gExc, eVar, eC, e1, e2, eA, aNil, aCons, eTup, eLst, eCall, lCall, listR, eChain, tV, tAndD, tOrD, tNotD, eAnd, eOr, eNot, eIf, eL, lDisp, lList, lRep, oNone, oSome, eSl, iSeq, iRng1, iRng2, iZipD, iEnumD, iRevD, lListRange, lLc, eSorted, eSortSet, eLenSet, eBor, tBor, tYesD, noE, toB, dCmp, dSub, dNeg, dInt, dLen, dIs, dIsNot, List.map_cons, List.map_nil, List.length_cons, List.length_nil, Nat.reduceAdd, Nat.reduceSub, Nat.reduceLeDiff, List.replicate, List.cons_append, List.nil_append, List.append_nil, List.getElem?_cons_zero, List.getElem?_cons_succ, List.set_cons_zero, List.set_cons_succ, if_true, if_false, reduceIte, Bool.not_true, Bool.not_false, Bool.false_eq_true, reduceCtorEq, es, least_loop hc hn hrows hL d (k + 1) m (by omega) (by omega)]
theorem F_least_eq (hc : cs.length = n) (hn : n ≤ 12) (hrows : ∀ r ∈ rows, r.length = n) {L : Nat} (hL : Least rows n L) : F_m_least [zS cs ws rows] = .ok (.int (L : Nat)) := by
  have e := least_loop (cs := cs) (ws := ws) hc hn hrows hL L 0 60 (by omega) (by have := hL.le; omega)
  unfold F_m_least g_m_least
  simp only [dIx_t0, dIx_t1, dIx_l0, dIx_l1, toItems, itemsOf, runF, runL, startE, endF, endL, R.bind_ok, R.bind_exc, R.bind_stuck, gSeq, gIf, gSet, gOwn, gRet, gRetL, gRetO, gDrop, gTgt, gT, gsC, gsN, gN, gFor, gApp, gExt, gFrz, gNil, gExc, eVar, eC, e1, e2, eA, aNil, aCons, eTup, eLst, eCall, lCall, listR, eChain, tV, tAndD, tOrD, tNotD, eAnd, eOr, eNot, eIf, eL, lDisp, lList, lRep, oNone, oSome, eSl, iSeq, iRng1, iRng2, iZipD, iEnumD, iRevD, lListRange, lLc, eSorted, eSortSet, eLenSet, eBor, tBor, tYesD, noE, toB, dCmp, dSub, dNeg, dInt, dLen, dIs, dIsNot, List.map_cons, List.map_nil, List.length_cons, List.length_nil, Nat.reduceAdd, Nat.reduceSub, Nat.reduceLeDiff, List.replicate, List.cons_append, List.nil_append, List.append_nil, List.getElem?_cons_zero, List.getElem?_cons_succ, List.set_cons_zero, List.set_cons_succ, if_true, if_false, reduceIte, Bool.not_true, Bool.not_false, Bool.false_eq_true, reduceCtorEq]
  rw [show ((0 : Nat) : Int) = 0 from rfl] at e
  simp only [dIx_t0, dIx_t1, dIx_l0, dIx_l1, toItems, itemsOf, runF, runL, startE, endF, endL, R.bind_ok, R.bind_exc, R.bind_stuck, gSeq, gIf, gSet, gOwn, gRet, gRetL, gRetO, gDrop, gTgt, gT, gsC, gsN, gN, gFor, gApp, gExt, gFrz, gNil, gExc, eVar, eC, e1, e2, eA, aNil, aCons, eTup, eLst, eCall, lCall, listR, eChain, tV, tAndD, tOrD, tNotD, eAnd, eOr, eNot, eIf, eL, lDisp, lList, lRep, oNone, oSome, eSl, iSeq, iRng1, iRng2, iZipD, iEnumD, iRevD, lListRange, lLc, eSorted, eSortSet, eLenSet, eBor, tBor, tYesD, noE, toB, dCmp, dSub, dNeg, dInt, dLen, dIs, dIsNot, List.map_cons, List.map_nil, List.length_cons, List.length_nil, Nat.reduceAdd, Nat.reduceSub, Nat.reduceLeDiff, List.replicate, List.cons_append, List.nil_append, List.append_nil, List.getElem?_cons_zero, List.getElem?_cons_succ, List.set_cons_zero, List.set_cons_succ, if_true, if_false, reduceIte, Bool.not_true, Bool.not_false, Bool.false_eq_true, reduceCtorEq, e]
end
end W

set_option Elab.async false
set_option linter.all false
set_option maxRecDepth 100000
set_option maxHeartbeats 1000000
namespace W
open PySem PL
/-! ### a case told -/
def alikeC (c : List Int) : D → Bool
  | .tuple xs => PyData.eqv (.tuple xs) (encC c) && xs.all (amongB (-1) 1)
  | _ => false
/-- data that may be looked at: dict-free, not deep, not long -/
def flatD (t : D) : Prop := sh 60 t ∧ ∀ xs, t = .tuple xs → xs.length ≤ 60
theorem eqv_among : ∀ {xs : List D} {c : List Int}, PyData.eqvAll xs (c.map PyData.int) = true → (∀ z ∈ c, -1 ≤ z ∧ z ≤ 1) → (xs.all (amongB (-1) 1)) = (xs.all fun x => match x with | .int _ => true | _ => false)
  | [], _, _, _ => rfl
  | x :: xs, [], h, _ => by simp [PyData.eqvAll] at h
  | x :: xs, z :: c, h, hc => by
    rw [List.map_cons, PyData.eqvAll, Bool.and_eq_true] at h
    rw [List.all_cons, List.all_cons, eqv_among h.2 fun y hy => hc y (List.mem_cons_of_mem _ hy)]
    congr 1
    cases x with
    | int i =>
      have e : i = z := by simpa [PyData.eqv] using h.1
      subst e
      have := hc i (List.mem_cons_self ..)
      simp [amongB, this.1, this.2]
    | _ => rfl
theorem alikeC_enc {m : Nat} {c : List Int} (hc : CaseOk m c) {t : D} : alikeC c t = true ↔ t = encC c := by
  constructor
  · intro h
    cases t with
    | tuple xs =>
      simp only [alikeC, Bool.and_eq_true] at h
      obtain ⟨ns, rfl, _⟩ := all_among h.2
      have e := (eqv_exact _ _ (by simpa [exact] using exact_ints ns) (encC_exact c)).mp h.1
      exact e
    | _ => simp [alikeC] at h
  · rintro rfl
    have h1 : PyData.eqv (encC c) (encC c) = true := by rw [encC_eqv, decide_eq_true rfl]
    simp only [alikeC, encC, Bool.and_eq_true] at h1 ⊢
    refine ⟨h1, ?_⟩
    simp only [List.all_map, List.all_eq_true, Function.comp_def, amongB, Bool.and_eq_true, decide_eq_true_eq]
    exact hc.2
/-! ### the cases by what a weighing comes to -/
abbrev sTold : Str := Str.ofString "told"
abbrev sWeigh : Str := Str.ofString "weigh"
theorem okTold : PyData.strOk sTold = true := by decide +kernel
theorem okWeigh : PyData.strOk sWeigh = true := by decide +kernel
theorem told_ne : sWeigh ≠ sTold := by decide +kernel
def decW : D → Option Wg
  | .tuple [.tuple a, .tuple b] => match intsOf a, intsOf b with
    | some a, some b => some (a, b)
    | _, _ => none
  | _ => none
theorem decW_enc (w : Wg) : decW (encW w) = some w := by simp [decW, encW, intsOf_map]
/-- the part for those that come to d -/
def partB (f : List (List Int) → D → Bool) (cs : List (List Int)) (w : Wg) (d : Int) (p : D) : Bool := match byW w d cs with
  | [] => (match p with | .none => true | _ => false)
  | c :: r => f (c :: r) p
def weighB (f : List (List Int) → D → Bool) (m : Int) (cs : List (List Int)) (x : D) (rest : List D) : Bool := match rest with
  | [.tuple [p0, p1, p2]] => isW m x && (match decW x with
    | some w => partB f cs w (-1) p0 && (partB f cs w 0 p1 && partB f cs w 1 p2)
    | none => false)
  | _ => false
def toldB (cs : List (List Int)) (x : D) (rest : List D) : Bool := match rest, cs with
  | [], [c] => alikeC c x
  | _, _ => false
def topB (m : Int) (cs : List (List Int)) (t : D) (f : List (List Int) → D → Bool) : Bool := match t with
  | .tuple (.str s :: x :: rest) => if s = sTold then toldB cs x rest else if s = sWeigh then weighB f m cs x rest else false
  | _ => false
def planB (m : Int) : Nat → List (List Int) → D → Bool
  | 0, cs, t => topB m cs t fun _ _ => false
  | k + 1, cs, t => topB m cs t (planB m k)
/-- what may be looked at, k plans deep -/
def lookW (x : D) : Prop := sh 60 x ∧ ∀ us, x = .tuple us → us.length ≤ 30 ∧ ∀ ys, .tuple ys ∈ us → ys.length ≤ 30
theorem lookW.flat {x : D} (h : lookW x) : flatD x := ⟨h.1, fun xs e => Nat.le_trans (h.2 xs e).1 (by decide)⟩
def fineT (m : Int) (t : D) (f : D → Prop) : Prop := tyD t ≠ none ∧ ∀ xs, t = .tuple xs → (∀ y ∈ xs, tyD y ≠ none) ∧ ∀ s x rest, xs = .str s :: x :: rest → PyData.strOk s = true ∧ lookW x ∧ ∀ ps, rest = [.tuple ps] → (∀ p ∈ ps, tyD p ≠ none) ∧ (s = sWeigh → isW m x = true → ∀ p ∈ ps, f p)
def fineP (m : Int) : Nat → D → Prop
  | 0, t => fineT m t fun _ => False
  | k + 1, t => fineT m t (fineP m k)
theorem isW_enc {m : Nat} {x : D} (h : isW m x = true) : ∃ w : Wg, x = encW w ∧ w.1.Pairwise (· < ·) ∧ w.2.Pairwise (· < ·) ∧ (∀ i ∈ w.1, 0 ≤ i ∧ i < (m : Int)) ∧ (∀ i ∈ w.2, 0 ≤ i ∧ i < (m : Int)) ∧ w.1 ≠ [] ∧ w.2 ≠ [] := by
  unfold isW at h
  split at h
  · rename_i a b
    simp only [Bool.and_eq_true] at h
    obtain ⟨h1, h2, h3⟩ := h
    obtain ⟨xs, rfl⟩ := isPan_tuple h1
    obtain ⟨ys, rfl⟩ := isPan_tuple h2
    obtain ⟨ns, rfl, n1, n2, n3⟩ := isPan_ints h1
    obtain ⟨ms, rfl, m1, m2, m3⟩ := isPan_ints h2
    exact ⟨(ns, ms), rfl, n1, m1, n3, m3, n2, m2⟩
  · cases h
theorem isW_ok {m : Nat} {w : Wg} (h : isW m (encW w) = true) (hl : lookW (encW w)) : WgOk m w := by
  obtain ⟨w', e, _, _, h1, h2, _, _⟩ := isW_enc h
  have e' : w = w' := by
    have := congrArg decW e
    rw [decW_enc, decW_enc] at this
    exact Option.some.inj this
  subst e'
  obtain ⟨_, h3⟩ := hl
  obtain ⟨_, h4⟩ := h3 _ rfl
  have l1 := h4 (w.1.map PyData.int) (by simp)
  have l2 := h4 (w.2.map PyData.int) (by simp)
  rw [List.length_map] at l1 l2
  exact ⟨h1, h2, by omega, by omega⟩
/-- what the two looks ask of the callee -/
def Calls (m : Nat) (R : List D → R D) (f : List (List Int) → D → Bool) (p : D) : Prop := ∀ l : List (List Int), l ≠ [] → (∀ c ∈ l, CaseOk m c) → l.length ≤ 100 → R [.int m, .list (l.map encC), p] = .ok (.bool (f l p))
theorem ix2 (a b c : D) (r : List D) : dIx (.tuple (a :: b :: c :: r)) (.int 2) = .ok c := dIx_tup (by decide) rfl
/-! ### the law's own look at a plan -/
/-! ### plans, typed -/
inductive Pl where
  | none
  | told (c : List Int)
  | weigh (w : Wg) (l e r : Pl)
def encP : Pl → D
  | .none => .none
  | .told c => .tuple [.str sTold, encC c]
  | .weigh w l e r => .tuple [.str sWeigh, encW w, .tuple [encP l, encP e, encP r]]
def ValidP (m : Nat) : List (List Int) → Pl → Prop
  | cs, .none => cs = []
  | cs, .told c => cs = [c]
  | cs, .weigh w l e r => cs ≠ [] ∧ isW m (encW w) = true ∧ lookW (encW w) ∧ ValidP m (byW w (-1) cs) l ∧ ValidP m (byW w 0 cs) e ∧ ValidP m (byW w 1 cs) r
def hgt : Pl → Nat
  | .weigh _ l e r => 1 + max (hgt l) (max (hgt e) (hgt r))
  | _ => 0
/-- a plan that passes is a plan -/
theorem part_valid {m : Nat} {f : List (List Int) → D → Bool} {cs : List (List Int)} {w : Wg} {d : Int} {p : D} (hf : ∀ l, l ≠ [] → f l p = true → ∃ q, p = encP q ∧ ValidP m l q) (h : partB f cs w d p = true) : ∃ q, p = encP q ∧ ValidP m (byW w d cs) q := by
  unfold partB at h
  cases hb : byW w d cs with
  | nil =>
    rw [hb] at h
    cases p <;> simp at h
    exact ⟨.none, rfl, rfl⟩
  | cons c r =>
    rw [hb] at h
    exact hf (c :: r) (by simp) h
theorem top_valid {m : Nat} {f : List (List Int) → D → Bool} {g : D → Prop} {t : D} (ht : fineT m t g) {cs : List (List Int)} (hc : ∀ c ∈ cs, CaseOk m c) (hcs : cs ≠ []) (hf : ∀ p, g p → ∀ l, (∀ c ∈ l, CaseOk m c) → l ≠ [] → f l p = true → ∃ q, p = encP q ∧ ValidP m l q) (h : topB m cs t f = true) :
    ∃ q, t = encP q ∧ ValidP m cs q := by
  unfold topB at h
  split at h
  · rename_i s x rest
    obtain ⟨_, hx, hps⟩ := (ht.2 _ rfl).2 s x rest rfl
    split at h
    · rename_i hs
      unfold toldB at h
      split at h
      · rename_i c
        rw [(alikeC_enc (hc c (by simp))).mp h, hs]
        exact ⟨.told c, rfl, rfl⟩
      · cases h
    · split at h
      · rename_i hs
        unfold weighB at h
        split at h
        · rename_i p0 p1 p2
          rw [Bool.and_eq_true] at h
          obtain ⟨hw, h⟩ := h
          obtain ⟨w, rfl, _⟩ := isW_enc hw
          rw [decW_enc] at h
          simp only [Bool.and_eq_true] at h
          obtain ⟨h0, h1, h2⟩ := h
          have hp := (hps _ rfl).2 hs hw
          have sub : ∀ d, ∀ c ∈ byW w d cs, CaseOk m c := fun d c h => hc c (by_sub c h)
          have pv : ∀ d p, p ∈ [p0, p1, p2] → partB f cs w d p = true → ∃ q, p = encP q ∧ ValidP m (byW w d cs) q := fun d p hm hb => by
            unfold partB at hb
            cases hz : byW w d cs with
            | nil =>
              rw [hz] at hb
              cases p <;> simp at hb
              exact ⟨.none, rfl, rfl⟩
            | cons c r =>
              rw [hz] at hb
              exact hf p (hp p hm) (c :: r) (hz ▸ sub d) (by simp) hb
          obtain ⟨q0, rfl, v0⟩ := pv _ p0 (by simp) h0
          obtain ⟨q1, rfl, v1⟩ := pv _ p1 (by simp) h1
          obtain ⟨q2, rfl, v2⟩ := pv _ p2 (by simp) h2
          exact ⟨.weigh w q0 q1 q2, by rw [hs]; rfl, hcs, hw, hx, v0, v1, v2⟩
        · cases h
      · cases h
  · cases h
theorem planB_valid {m : Nat} : ∀ (k : Nat) (t : D), fineP m k t → ∀ (cs : List (List Int)), (∀ c ∈ cs, CaseOk m c) → cs ≠ [] → planB m k cs t = true → ∃ q, t = encP q ∧ ValidP m cs q
  | 0, t, ht, cs, hc, hcs, h => top_valid ht hc hcs (fun p hp => hp.elim) h
  | k + 1, t, ht, cs, hc, hcs, h => top_valid ht hc hcs (fun p hp l hl hne hb => planB_valid k p hp l hl hne hb) h
/-- .. and a plan passes -/
theorem part_pass {m : Nat} {f : List (List Int) → D → Bool} {cs : List (List Int)} {w : Wg} {d : Int} {q : Pl} (hv : ValidP m (byW w d cs) q) (hf : byW w d cs ≠ [] → f (byW w d cs) (encP q) = true) : partB f cs w d (encP q) = true := by
  unfold partB
  cases hb : byW w d cs with
  | nil =>
    rw [hb] at hv
    cases q with
    | none => rfl
    | told c => cases (show [] = [c] from hv)
    | weigh w l e r => exact absurd rfl (show ([] : List (List Int)) ≠ [] ∧ _ from hv).1
  | cons c r =>
    rw [hb] at hf
    exact hf (by simp)
theorem valid_pass {m : Nat} : ∀ (q : Pl) (k : Nat) (cs : List (List Int)), (∀ c ∈ cs, CaseOk m c) → cs ≠ [] → hgt q ≤ k → ValidP m cs q → planB m k cs (encP q) = true
  | .none, k, cs, _, hcs, _, h => absurd h hcs
  | .told c, k, cs, hc, hcs, _, h => by
    cases (show cs = [c] from h)
    have e : alikeC c (encC c) = true := (alikeC_enc (hc c (by simp))).mpr rfl
    have e2 : ∀ f, topB m [c] (encP (.told c)) f = true := fun f => by simp [topB, encP, toldB, e]
    cases k <;> exact e2 _
  | .weigh w l e r, 0, cs, _, _, hk, _ => by simp [hgt] at hk
  | .weigh w l e r, k + 1, cs, hc, hcs, hk, h => by
    obtain ⟨_, hw, _, v0, v1, v2⟩ := h
    simp only [hgt] at hk
    have sub : ∀ d, ∀ c ∈ byW w d cs, CaseOk m c := fun d c h => hc c (by_sub c h)
    have a0 := part_pass (f := planB m k) v0 fun hne => valid_pass l k _ (sub _) hne (by omega) v0
    have a1 := part_pass (f := planB m k) v1 fun hne => valid_pass e k _ (sub _) hne (by omega) v1
    have a2 := part_pass (f := planB m k) v2 fun hne => valid_pass r k _ (sub _) hne (by omega) v2
    show topB m cs (encP (.weigh w l e r)) (planB m k) = true
    simp only [topB, encP, if_neg told_ne, if_pos rfl, weighB, hw, decW_enc, a0, a1, a2, Bool.and_self, if_true]
/-- and may be looked at -/
theorem encW_ty (w : Wg) : tyD (encW w) ≠ none := by simp [encW, tyD]
theorem valid_fine {m : Nat} (hm : m ≤ 30) : ∀ (q : Pl) (k : Nat) (cs : List (List Int)), (∀ c ∈ cs, CaseOk m c) → hgt q ≤ k → ValidP m cs q → fineP m k (encP q)
  | .none, k, cs, _, _, _ => by
    have e : ∀ f, fineT m (encP .none) f := fun f => ⟨by simp [encP, tyD], fun xs e => by cases e⟩
    cases k <;> exact e _
  | .told c, k, cs, hc, _, h => by
    cases (show cs = [c] from h)
    have lc : lookW (encC c) := ⟨sh_up (encC_sh c) (by decide), fun us e => by
      cases e
      refine ⟨by rw [List.length_map, (hc c (by simp)).1]; omega, fun ys hy => ?_⟩
      obtain ⟨i, _, z⟩ := List.mem_map.mp hy
      cases z⟩
    have e : ∀ f, fineT m (encP (.told c)) f := fun f => ⟨by simp [encP, tyD], fun xs e => by
      cases e
      refine ⟨fun y hy => ?_, fun s x rest e => ?_⟩
      · simp only [List.mem_cons, List.not_mem_nil, or_false] at hy
        rcases hy with rfl | rfl <;> simp [tyD, encC]
      · cases e
        exact ⟨okTold, lc, fun ps e => by cases e⟩⟩
    cases k <;> exact e _
  | .weigh w l e r, 0, cs, _, hk, _ => by simp [hgt] at hk
  | .weigh w l e r, k + 1, cs, hc, hk, h => by
    obtain ⟨_, hw, hl, v0, v1, v2⟩ := h
    simp only [hgt] at hk
    have sub : ∀ d, ∀ c ∈ byW w d cs, CaseOk m c := fun d c h => hc c (by_sub c h)
    have f0 := valid_fine hm l k _ (sub _) (by omega) v0
    have f1 := valid_fine hm e k _ (sub _) (by omega) v1
    have f2 := valid_fine hm r k _ (sub _) (by omega) v2
    have tyf : ∀ k t, fineP m k t → tyD t ≠ none := fun k t h => by cases k <;> exact h.1
    refine ⟨by simp [encP, tyD], fun xs e' => ?_⟩
    cases e'
    refine ⟨fun y hy => ?_, fun s x rest e' => ?_⟩
    · simp only [List.mem_cons, List.not_mem_nil, or_false] at hy
      rcases hy with rfl | rfl | rfl <;> simp [tyD, encW]
    · cases e'
      refine ⟨okWeigh, hl, fun ps e' => ?_⟩
      cases e'
      have all : ∀ p ∈ [encP l, encP e, encP r], fineP m k p := fun p hp => by
        simp only [List.mem_cons, List.not_mem_nil, or_false] at hp
        rcases hp with rfl | rfl | rfl
        · exact f0
        · exact f1
        · exact f2
      exact ⟨fun p hp => tyf k p (all p hp), fun _ _ => all⟩


end W

set_option Elab.async false
set_option linter.all false
set_option maxRecDepth 100000
set_option maxHeartbeats 1000000
namespace W
open PySem PL
/-! ### Search, typed: plan -/
def rowOf (cs : List (List Int)) (w : Wg) : List Int := cs.map (cm w)
def rowsW (cs : List (List Int)) (ws : List Wg) : List (List Int) := ws.map (rowOf cs)
def pickC (cs : List (List Int)) (s : List Int) : List (List Int) := s.map fun k => cs.getD k.toNat []
theorem by_pick {cs : List (List Int)} {s : List Int} (h : In cs.length s) (w : Wg) (d : Int) : byW w d (pickC cs s) = pickC cs (idxI s (rowOf cs w) d) := by
  unfold byW pickC idxI
  rw [List.filter_map]
  congr 1
  refine List.filter_congr fun k hk => ?_
  obtain ⟨h0, h1⟩ := h k hk
  have e1 : cs.getD k.toNat [] = cs[k.toNat]'(by omega) := by rw [List.getD_eq_getElem?_getD, List.getElem?_eq_getElem (by omega)]; rfl
  have e2 : (rowOf cs w).getD k.toNat 0 = cm w (cs[k.toNat]'(by omega)) := by
    unfold rowOf
    rw [List.getD_eq_getElem?_getD, List.getElem?_map, List.getElem?_eq_getElem (by omega)]
    rfl
  rw [Function.comp, e1, e2]
theorem pick_full (cs : List (List Int)) : pickC cs (fullI cs.length) = cs := by
  unfold pickC fullI
  rw [List.map_map]
  refine List.ext_getElem (by simp) fun i h1 h2 => ?_
  simp [List.getD_eq_getElem?_getD, h2]
theorem pick_nil {cs : List (List Int)} {s : List Int} : pickC cs s = [] ↔ s = [] := by simp [pickC]
structure Srch (m n : Nat) (cs : List (List Int)) (ws : List Wg) : Prop where
  hm : Many m
  len : cs.length = n
  le : n ≤ 12
  ok : ∀ c ∈ cs, CaseOk m c
  w : ∀ w ∈ ws, isW m (encW w) = true ∧ lookW (encW w)
  wl : ws.length ≤ 30
theorem rows_len {n : Nat} {cs : List (List Int)} {ws : List Wg} (h : cs.length = n) : ∀ r ∈ rowsW cs ws, r.length = n := fun r hr => by
  obtain ⟨w, _, rfl⟩ := List.mem_map.mp hr
  simpa [rowOf] using h
theorem dEq_unit (p : List Int) : dEq (tupI p) (.tuple []) = .ok (.bool (decide (p = []))) := by
  rw [show PyData.tuple [] = tupI [] from rfl, dEq_sh (tupI_sh p) (tupI_sh [])]
  cases p <;> simp [PyData.eqv, PyData.eqvAll]

end W

set_option Elab.async false
set_option linter.all false
set_option maxRecDepth 100000
set_option maxHeartbeats 1000000
namespace W
open PySem PL
theorem c_told (xs : List D) (c0 : D) (hx : ∀ x ∈ xs, tyD x ≠ none) (hl : xs.length ≤ 100000) : c__law_is_case_told_1 [.val (.tuple xs), .val c0, .no] = .ok (xs.map fun x => .bool (match x with | .int _ => true | _ => false)) := by
  unfold c__law_is_case_told_1
  simp only [dIx_t0, dIx_t1, dIx_l0, dIx_l1, toItems, itemsOf, runF, runL, startE, endF, endL, R.bind_ok, R.bind_exc, R.bind_stuck, gSeq, gIf, gSet, gOwn, gRet, gRetL, gRetO, gDrop, gTgt, gT, gsC, gsN, gN, gFor, gApp, gExt, gFrz, gNil, gExc, eVar, eC, e1, e2, eA, aNil, aCons, eTup, eLst, eCall, lCall, listR, eChain, tV, tAndD, tOrD, tNotD, eAnd, eOr, eNot, eIf, eL, lDisp, lList, lRep, oNone, oSome, eSl, iSeq, iRng1, iRng2, iZipD, iEnumD, iRevD, lListRange, lLc, eSorted, eSortSet, eLenSet, eBor, tBor, tYesD, noE, toB, dCmp, dSub, dNeg, dInt, dLen, dIs, dIsNot, List.map_cons, List.map_nil, List.length_cons, List.length_nil, Nat.reduceAdd, Nat.reduceSub, Nat.reduceLeDiff, List.replicate, List.cons_append, List.nil_append, List.append_nil, List.getElem?_cons_zero, List.getElem?_cons_succ, List.set_cons_zero, List.set_cons_succ, if_true, if_false, reduceIte, Bool.not_true, Bool.not_false, Bool.false_eq_true, reduceCtorEq]
  rw [if_pos ⟨hl, rfl⟩]
  rw [eachR_map (f := fun x => .bool (match x with | .int _ => true | _ => false))]
  intro x h
  unfold lcStep
  simp only [dIx_t0, dIx_t1, dIx_l0, dIx_l1, toItems, itemsOf, runF, runL, startE, endF, endL, R.bind_ok, R.bind_exc, R.bind_stuck, gSeq, gIf, gSet, gOwn, gRet, gRetL, gRetO, gDrop, gTgt, gT, gsC, gsN, gN, gFor, gApp, gExt, gFrz, gNil, gExc, eVar, eC, e1, e2, eA, aNil, aCons, eTup, eLst, eCall, lCall, listR, eChain, tV, tAndD, tOrD, tNotD, eAnd, eOr, eNot, eIf, eL, lDisp, lList, lRep, oNone, oSome, eSl, iSeq, iRng1, iRng2, iZipD, iEnumD, iRevD, lListRange, lLc, eSorted, eSortSet, eLenSet, eBor, tBor, tYesD, noE, toB, dCmp, dSub, dNeg, dInt, dLen, dIs, dIsNot, List.map_cons, List.map_nil, List.length_cons, List.length_nil, Nat.reduceAdd, Nat.reduceSub, Nat.reduceLeDiff, List.replicate, List.cons_append, List.nil_append, List.append_nil, List.getElem?_cons_zero, List.getElem?_cons_succ, List.set_cons_zero, List.set_cons_succ, if_true, if_false, reduceIte, Bool.not_true, Bool.not_false, Bool.false_eq_true, reduceCtorEq, wipeE, F__law_whole_eq x (hx x h)]
  cases x <;> rfl
theorem F__law_is_case_told_eq {m : Nat} (c : List Int) (hc : CaseOk m c) (t : D) (h : flatD t) : F__law_is_case_told [t, encC c] = .ok (.bool (alikeC c t)) := by
  unfold F__law_is_case_told g__law_is_case_told
  simp only [dIx_t0, dIx_t1, dIx_l0, dIx_l1, toItems, itemsOf, runF, runL, startE, endF, endL, R.bind_ok, R.bind_exc, R.bind_stuck, gSeq, gIf, gSet, gOwn, gRet, gRetL, gRetO, gDrop, gTgt, gT, gsC, gsN, gN, gFor, gApp, gExt, gFrz, gNil, gExc, eVar, eC, e1, e2, eA, aNil, aCons, eTup, eLst, eCall, lCall, listR, eChain, tV, tAndD, tOrD, tNotD, eAnd, eOr, eNot, eIf, eL, lDisp, lList, lRep, oNone, oSome, eSl, iSeq, iRng1, iRng2, iZipD, iEnumD, iRevD, lListRange, lLc, eSorted, eSortSet, eLenSet, eBor, tBor, tYesD, noE, toB, dCmp, dSub, dNeg, dInt, dLen, dIs, dIsNot, List.map_cons, List.map_nil, List.length_cons, List.length_nil, Nat.reduceAdd, Nat.reduceSub, Nat.reduceLeDiff, List.replicate, List.cons_append, List.nil_append, List.append_nil, List.getElem?_cons_zero, List.getElem?_cons_succ, List.set_cons_zero, List.set_cons_succ, if_true, if_false, reduceIte, Bool.not_true, Bool.not_false, Bool.false_eq_true, reduceCtorEq, isi_tuple t (ty_of_sh h.1)]
  cases t
  case tuple xs =>
    have hx := sh_of_tuple h.1
    have hl := h.2 xs rfl
    simp only [dIx_t0, dIx_t1, dIx_l0, dIx_l1, toItems, itemsOf, runF, runL, startE, endF, endL, R.bind_ok, R.bind_exc, R.bind_stuck, gSeq, gIf, gSet, gOwn, gRet, gRetL, gRetO, gDrop, gTgt, gT, gsC, gsN, gN, gFor, gApp, gExt, gFrz, gNil, gExc, eVar, eC, e1, e2, eA, aNil, aCons, eTup, eLst, eCall, lCall, listR, eChain, tV, tAndD, tOrD, tNotD, eAnd, eOr, eNot, eIf, eL, lDisp, lList, lRep, oNone, oSome, eSl, iSeq, iRng1, iRng2, iZipD, iEnumD, iRevD, lListRange, lLc, eSorted, eSortSet, eLenSet, eBor, tBor, tYesD, noE, toB, dCmp, dSub, dNeg, dInt, dLen, dIs, dIsNot, List.map_cons, List.map_nil, List.length_cons, List.length_nil, Nat.reduceAdd, Nat.reduceSub, Nat.reduceLeDiff, List.replicate, List.cons_append, List.nil_append, List.append_nil, List.getElem?_cons_zero, List.getElem?_cons_succ, List.set_cons_zero, List.set_cons_succ, if_true, if_false, reduceIte, Bool.not_true, Bool.not_false, Bool.false_eq_true, reduceCtorEq, dEq_sh h.1 (encC_sh c)]
    cases he : PyData.eqv (.tuple xs) (encC c)
    · simp only [dIx_t0, dIx_t1, dIx_l0, dIx_l1, toItems, itemsOf, runF, runL, startE, endF, endL, R.bind_ok, R.bind_exc, R.bind_stuck, gSeq, gIf, gSet, gOwn, gRet, gRetL, gRetO, gDrop, gTgt, gT, gsC, gsN, gN, gFor, gApp, gExt, gFrz, gNil, gExc, eVar, eC, e1, e2, eA, aNil, aCons, eTup, eLst, eCall, lCall, listR, eChain, tV, tAndD, tOrD, tNotD, eAnd, eOr, eNot, eIf, eL, lDisp, lList, lRep, oNone, oSome, eSl, iSeq, iRng1, iRng2, iZipD, iEnumD, iRevD, lListRange, lLc, eSorted, eSortSet, eLenSet, eBor, tBor, tYesD, noE, toB, dCmp, dSub, dNeg, dInt, dLen, dIs, dIsNot, List.map_cons, List.map_nil, List.length_cons, List.length_nil, Nat.reduceAdd, Nat.reduceSub, Nat.reduceLeDiff, List.replicate, List.cons_append, List.nil_append, List.append_nil, List.getElem?_cons_zero, List.getElem?_cons_succ, List.set_cons_zero, List.set_cons_succ, if_true, if_false, reduceIte, Bool.not_true, Bool.not_false, Bool.false_eq_true, reduceCtorEq, alikeC, he, Bool.false_and]
    · have he' : PyData.eqvAll xs (c.map PyData.int) = true := by simpa [encC, PyData.eqv] using he
      simp only [dIx_t0, dIx_t1, dIx_l0, dIx_l1, toItems, itemsOf, runF, runL, startE, endF, endL, R.bind_ok, R.bind_exc, R.bind_stuck, gSeq, gIf, gSet, gOwn, gRet, gRetL, gRetO, gDrop, gTgt, gT, gsC, gsN, gN, gFor, gApp, gExt, gFrz, gNil, gExc, eVar, eC, e1, e2, eA, aNil, aCons, eTup, eLst, eCall, lCall, listR, eChain, tV, tAndD, tOrD, tNotD, eAnd, eOr, eNot, eIf, eL, lDisp, lList, lRep, oNone, oSome, eSl, iSeq, iRng1, iRng2, iZipD, iEnumD, iRevD, lListRange, lLc, eSorted, eSortSet, eLenSet, eBor, tBor, tYesD, noE, toB, dCmp, dSub, dNeg, dInt, dLen, dIs, dIsNot, List.map_cons, List.map_nil, List.length_cons, List.length_nil, Nat.reduceAdd, Nat.reduceSub, Nat.reduceLeDiff, List.replicate, List.cons_append, List.nil_append, List.append_nil, List.getElem?_cons_zero, List.getElem?_cons_succ, List.set_cons_zero, List.set_cons_succ, if_true, if_false, reduceIte, Bool.not_true, Bool.not_false, Bool.false_eq_true, reduceCtorEq, c_told xs (encC c) (fun x hx' => ty_of_sh (hx x hx')) (by omega), alikeC, he, Bool.true_and, eqv_among he' hc.2]
      rw [map_bool_all (fun x : D => match x with | .int _ => true | _ => false)]
      simp only [dIx_t0, dIx_t1, dIx_l0, dIx_l1, toItems, itemsOf, runF, runL, startE, endF, endL, R.bind_ok, R.bind_exc, R.bind_stuck, gSeq, gIf, gSet, gOwn, gRet, gRetL, gRetO, gDrop, gTgt, gT, gsC, gsN, gN, gFor, gApp, gExt, gFrz, gNil, gExc, eVar, eC, e1, e2, eA, aNil, aCons, eTup, eLst, eCall, lCall, listR, eChain, tV, tAndD, tOrD, tNotD, eAnd, eOr, eNot, eIf, eL, lDisp, lList, lRep, oNone, oSome, eSl, iSeq, iRng1, iRng2, iZipD, iEnumD, iRevD, lListRange, lLc, eSorted, eSortSet, eLenSet, eBor, tBor, tYesD, noE, toB, dCmp, dSub, dNeg, dInt, dLen, dIs, dIsNot, List.map_cons, List.map_nil, List.length_cons, List.length_nil, Nat.reduceAdd, Nat.reduceSub, Nat.reduceLeDiff, List.replicate, List.cons_append, List.nil_append, List.append_nil, List.getElem?_cons_zero, List.getElem?_cons_succ, List.set_cons_zero, List.set_cons_succ, if_true, if_false, reduceIte, Bool.not_true, Bool.not_false, Bool.false_eq_true, reduceCtorEq]
      all_goals rfl
  all_goals simp only [dIx_t0, dIx_t1, dIx_l0, dIx_l1, toItems, itemsOf, runF, runL, startE, endF, endL, R.bind_ok, R.bind_exc, R.bind_stuck, gSeq, gIf, gSet, gOwn, gRet, gRetL, gRetO, gDrop, gTgt, gT, gsC, gsN, gN, gFor, gApp, gExt, gFrz, gNil, gExc, eVar, eC, e1, e2, eA, aNil, aCons, eTup, eLst, eCall, lCall, listR, eChain, tV, tAndD, tOrD, tNotD, eAnd, eOr, eNot, eIf, eL, lDisp, lList, lRep, oNone, oSome, eSl, iSeq, iRng1, iRng2, iZipD, iEnumD, iRevD, lListRange, lLc, eSorted, eSortSet, eLenSet, eBor, tBor, tYesD, noE, toB, dCmp, dSub, dNeg, dInt, dLen, dIs, dIsNot, List.map_cons, List.map_nil, List.length_cons, List.length_nil, Nat.reduceAdd, Nat.reduceSub, Nat.reduceLeDiff, List.replicate, List.cons_append, List.nil_append, List.append_nil, List.getElem?_cons_zero, List.getElem?_cons_succ, List.set_cons_zero, List.set_cons_succ, if_true, if_false, reduceIte, Bool.not_true, Bool.not_false, Bool.false_eq_true, reduceCtorEq, alikeC]
theorem law_by {m : Nat} {w : Wg} (hw : WgOk m w) {cs : List (List Int)} (hc : ∀ c ∈ cs, CaseOk m c) (hl : cs.length ≤ 100) {Rf : List D → PL.R D} (x2 : D) (k : Int) (s0 s4 s5 : PL.Slot noObj) (rest : List D) :
    c__law_is_plan_1 Rf [s0, .val (.list (cs.map encC)), .val (.tuple (.str sWeigh :: encW w :: rest)), .val (.int k), s4, s5, .no] = .ok ((byW w (k - 1) cs).map encC) := by
  unfold c__law_is_plan_1
  simp only [dIx_t0, dIx_t1, dIx_l0, dIx_l1, toItems, itemsOf, runF, runL, startE, endF, endL, R.bind_ok, R.bind_exc, R.bind_stuck, gSeq, gIf, gSet, gOwn, gRet, gRetL, gRetO, gDrop, gTgt, gT, gsC, gsN, gN, gFor, gApp, gExt, gFrz, gNil, gExc, eVar, eC, e1, e2, eA, aNil, aCons, eTup, eLst, eCall, lCall, listR, eChain, tV, tAndD, tOrD, tNotD, eAnd, eOr, eNot, eIf, eL, lDisp, lList, lRep, oNone, oSome, eSl, iSeq, iRng1, iRng2, iZipD, iEnumD, iRevD, lListRange, lLc, eSorted, eSortSet, eLenSet, eBor, tBor, tYesD, noE, toB, dCmp, dSub, dNeg, dInt, dLen, dIs, dIsNot, List.map_cons, List.map_nil, List.length_cons, List.length_nil, Nat.reduceAdd, Nat.reduceSub, Nat.reduceLeDiff, List.replicate, List.cons_append, List.nil_append, List.append_nil, List.getElem?_cons_zero, List.getElem?_cons_succ, List.set_cons_zero, List.set_cons_succ, if_true, if_false, reduceIte, Bool.not_true, Bool.not_false, Bool.false_eq_true, reduceCtorEq]
  rw [if_pos ⟨by rw [List.length_map]; omega, rfl⟩]
  refine noE_of ?_
  refine each_enc fun c h => ?_
  unfold lcStep
  simp only [dIx_t0, dIx_t1, dIx_l0, dIx_l1, toItems, itemsOf, runF, runL, startE, endF, endL, R.bind_ok, R.bind_exc, R.bind_stuck, gSeq, gIf, gSet, gOwn, gRet, gRetL, gRetO, gDrop, gTgt, gT, gsC, gsN, gN, gFor, gApp, gExt, gFrz, gNil, gExc, eVar, eC, e1, e2, eA, aNil, aCons, eTup, eLst, eCall, lCall, listR, eChain, tV, tAndD, tOrD, tNotD, eAnd, eOr, eNot, eIf, eL, lDisp, lList, lRep, oNone, oSome, eSl, iSeq, iRng1, iRng2, iZipD, iEnumD, iRevD, lListRange, lLc, eSorted, eSortSet, eLenSet, eBor, tBor, tYesD, noE, toB, dCmp, dSub, dNeg, dInt, dLen, dIs, dIsNot, List.map_cons, List.map_nil, List.length_cons, List.length_nil, Nat.reduceAdd, Nat.reduceSub, Nat.reduceLeDiff, List.replicate, List.cons_append, List.nil_append, List.append_nil, List.getElem?_cons_zero, List.getElem?_cons_succ, List.set_cons_zero, List.set_cons_succ, if_true, if_false, reduceIte, Bool.not_true, Bool.not_false, Bool.false_eq_true, reduceCtorEq, wipeE, lcame_eq hw (hc c h), dEq_int]
  by_cases h : cm w c = k - 1
  · simp only [dIx_t0, dIx_t1, dIx_l0, dIx_l1, toItems, itemsOf, runF, runL, startE, endF, endL, R.bind_ok, R.bind_exc, R.bind_stuck, gSeq, gIf, gSet, gOwn, gRet, gRetL, gRetO, gDrop, gTgt, gT, gsC, gsN, gN, gFor, gApp, gExt, gFrz, gNil, gExc, eVar, eC, e1, e2, eA, aNil, aCons, eTup, eLst, eCall, lCall, listR, eChain, tV, tAndD, tOrD, tNotD, eAnd, eOr, eNot, eIf, eL, lDisp, lList, lRep, oNone, oSome, eSl, iSeq, iRng1, iRng2, iZipD, iEnumD, iRevD, lListRange, lLc, eSorted, eSortSet, eLenSet, eBor, tBor, tYesD, noE, toB, dCmp, dSub, dNeg, dInt, dLen, dIs, dIsNot, List.map_cons, List.map_nil, List.length_cons, List.length_nil, Nat.reduceAdd, Nat.reduceSub, Nat.reduceLeDiff, List.replicate, List.cons_append, List.nil_append, List.append_nil, List.getElem?_cons_zero, List.getElem?_cons_succ, List.set_cons_zero, List.set_cons_succ, if_true, if_false, reduceIte, Bool.not_true, Bool.not_false, Bool.false_eq_true, reduceCtorEq, decide_eq_true h]
  · simp only [dIx_t0, dIx_t1, dIx_l0, dIx_l1, toItems, itemsOf, runF, runL, startE, endF, endL, R.bind_ok, R.bind_exc, R.bind_stuck, gSeq, gIf, gSet, gOwn, gRet, gRetL, gRetO, gDrop, gTgt, gT, gsC, gsN, gN, gFor, gApp, gExt, gFrz, gNil, gExc, eVar, eC, e1, e2, eA, aNil, aCons, eTup, eLst, eCall, lCall, listR, eChain, tV, tAndD, tOrD, tNotD, eAnd, eOr, eNot, eIf, eL, lDisp, lList, lRep, oNone, oSome, eSl, iSeq, iRng1, iRng2, iZipD, iEnumD, iRevD, lListRange, lLc, eSorted, eSortSet, eLenSet, eBor, tBor, tYesD, noE, toB, dCmp, dSub, dNeg, dInt, dLen, dIs, dIsNot, List.map_cons, List.map_nil, List.length_cons, List.length_nil, Nat.reduceAdd, Nat.reduceSub, Nat.reduceLeDiff, List.replicate, List.cons_append, List.nil_append, List.append_nil, List.getElem?_cons_zero, List.getElem?_cons_succ, List.set_cons_zero, List.set_cons_succ, if_true, if_false, reduceIte, Bool.not_true, Bool.not_false, Bool.false_eq_true, reduceCtorEq, decide_eq_false h]
theorem law_step {m : Nat} {w : Wg} (hw : WgOk m w) {cs : List (List Int)} (hc : ∀ c ∈ cs, CaseOk m c) (hl : cs.length ≤ 100) {Rf : List D → PL.R D} {f : List (List Int) → D → Bool} (k : Int) (p p0 p1 p2 : D) (s4 s5 : PL.Slot noObj) (hk : dIx (.tuple [p0, p1, p2]) (.int k) = .ok p) (hR : Calls m Rf f p) :
    ∃ s4' s5', g__law_is_plan_L1 Rf [.val (.int m), .val (.list (cs.map encC)), .val (.tuple [.str sWeigh, encW w, .tuple [p0, p1, p2]]), .val (.int k), s4, s5, .no] =
      if partB f cs w (k - 1) p = true then .ok (.nx, [.val (.int m), .val (.list (cs.map encC)), .val (.tuple [.str sWeigh, encW w, .tuple [p0, p1, p2]]), .val (.int k), s4', s5', .no])
      else .ok (.rt (.bool false), [.val (.int m), .val (.list (cs.map encC)), .val (.tuple [.str sWeigh, encW w, .tuple [p0, p1, p2]]), .val (.int k), s4', s5', .no]) := by
  refine ⟨.val (.list ((byW w (k - 1) cs).map encC)), .val p, ?_⟩
  unfold g__law_is_plan_L1
  simp only [dIx_t0, dIx_t1, dIx_l0, dIx_l1, toItems, itemsOf, runF, runL, startE, endF, endL, R.bind_ok, R.bind_exc, R.bind_stuck, gSeq, gIf, gSet, gOwn, gRet, gRetL, gRetO, gDrop, gTgt, gT, gsC, gsN, gN, gFor, gApp, gExt, gFrz, gNil, gExc, eVar, eC, e1, e2, eA, aNil, aCons, eTup, eLst, eCall, lCall, listR, eChain, tV, tAndD, tOrD, tNotD, eAnd, eOr, eNot, eIf, eL, lDisp, lList, lRep, oNone, oSome, eSl, iSeq, iRng1, iRng2, iZipD, iEnumD, iRevD, lListRange, lLc, eSorted, eSortSet, eLenSet, eBor, tBor, tYesD, noE, toB, dCmp, dSub, dNeg, dInt, dLen, dIs, dIsNot, List.map_cons, List.map_nil, List.length_cons, List.length_nil, Nat.reduceAdd, Nat.reduceSub, Nat.reduceLeDiff, List.replicate, List.cons_append, List.nil_append, List.append_nil, List.getElem?_cons_zero, List.getElem?_cons_succ, List.set_cons_zero, List.set_cons_succ, if_true, if_false, reduceIte, Bool.not_true, Bool.not_false, Bool.false_eq_true, reduceCtorEq, law_by hw hc hl .none k, ix2, hk, dEq_nil, dNe_nil]
  have hcb : ∀ c ∈ byW w (k - 1) cs, CaseOk m c := fun c h => hc c (List.mem_filter.mp h).1
  have hlb : (byW w (k - 1) cs).length ≤ 100 := Nat.le_trans (List.length_filter_le _ _) hl
  unfold partB
  cases hb : byW w (k - 1) cs with
  | nil =>
    simp only [dIx_t0, dIx_t1, dIx_l0, dIx_l1, toItems, itemsOf, runF, runL, startE, endF, endL, R.bind_ok, R.bind_exc, R.bind_stuck, gSeq, gIf, gSet, gOwn, gRet, gRetL, gRetO, gDrop, gTgt, gT, gsC, gsN, gN, gFor, gApp, gExt, gFrz, gNil, gExc, eVar, eC, e1, e2, eA, aNil, aCons, eTup, eLst, eCall, lCall, listR, eChain, tV, tAndD, tOrD, tNotD, eAnd, eOr, eNot, eIf, eL, lDisp, lList, lRep, oNone, oSome, eSl, iSeq, iRng1, iRng2, iZipD, iEnumD, iRevD, lListRange, lLc, eSorted, eSortSet, eLenSet, eBor, tBor, tYesD, noE, toB, dCmp, dSub, dNeg, dInt, dLen, dIs, dIsNot, List.map_cons, List.map_nil, List.length_cons, List.length_nil, Nat.reduceAdd, Nat.reduceSub, Nat.reduceLeDiff, List.replicate, List.cons_append, List.nil_append, List.append_nil, List.getElem?_cons_zero, List.getElem?_cons_succ, List.set_cons_zero, List.set_cons_succ, if_true, if_false, reduceIte, Bool.not_true, Bool.not_false, Bool.false_eq_true, reduceCtorEq, List.isEmpty_nil]
    cases p <;> simp only [dIx_t0, dIx_t1, dIx_l0, dIx_l1, toItems, itemsOf, runF, runL, startE, endF, endL, R.bind_ok, R.bind_exc, R.bind_stuck, gSeq, gIf, gSet, gOwn, gRet, gRetL, gRetO, gDrop, gTgt, gT, gsC, gsN, gN, gFor, gApp, gExt, gFrz, gNil, gExc, eVar, eC, e1, e2, eA, aNil, aCons, eTup, eLst, eCall, lCall, listR, eChain, tV, tAndD, tOrD, tNotD, eAnd, eOr, eNot, eIf, eL, lDisp, lList, lRep, oNone, oSome, eSl, iSeq, iRng1, iRng2, iZipD, iEnumD, iRevD, lListRange, lLc, eSorted, eSortSet, eLenSet, eBor, tBor, tYesD, noE, toB, dCmp, dSub, dNeg, dInt, dLen, dIs, dIsNot, List.map_cons, List.map_nil, List.length_cons, List.length_nil, Nat.reduceAdd, Nat.reduceSub, Nat.reduceLeDiff, List.replicate, List.cons_append, List.nil_append, List.append_nil, List.getElem?_cons_zero, List.getElem?_cons_succ, List.set_cons_zero, List.set_cons_succ, if_true, if_false, reduceIte, Bool.not_true, Bool.not_false, Bool.false_eq_true, reduceCtorEq]
  | cons c r =>
    rw [hb] at hcb hlb
    simp only [dIx_t0, dIx_t1, dIx_l0, dIx_l1, toItems, itemsOf, runF, runL, startE, endF, endL, R.bind_ok, R.bind_exc, R.bind_stuck, gSeq, gIf, gSet, gOwn, gRet, gRetL, gRetO, gDrop, gTgt, gT, gsC, gsN, gN, gFor, gApp, gExt, gFrz, gNil, gExc, eVar, eC, e1, e2, eA, aNil, aCons, eTup, eLst, eCall, lCall, listR, eChain, tV, tAndD, tOrD, tNotD, eAnd, eOr, eNot, eIf, eL, lDisp, lList, lRep, oNone, oSome, eSl, iSeq, iRng1, iRng2, iZipD, iEnumD, iRevD, lListRange, lLc, eSorted, eSortSet, eLenSet, eBor, tBor, tYesD, noE, toB, dCmp, dSub, dNeg, dInt, dLen, dIs, dIsNot, List.map_cons, List.map_nil, List.length_cons, List.length_nil, Nat.reduceAdd, Nat.reduceSub, Nat.reduceLeDiff, List.replicate, List.cons_append, List.nil_append, List.append_nil, List.getElem?_cons_zero, List.getElem?_cons_succ, List.set_cons_zero, List.set_cons_succ, if_true, if_false, reduceIte, Bool.not_true, Bool.not_false, Bool.false_eq_true, reduceCtorEq, List.isEmpty_cons]
    have e := hR (c :: r) (by simp) hcb hlb
    rw [List.map_cons] at e
    simp only [dIx_t0, dIx_t1, dIx_l0, dIx_l1, toItems, itemsOf, runF, runL, startE, endF, endL, R.bind_ok, R.bind_exc, R.bind_stuck, gSeq, gIf, gSet, gOwn, gRet, gRetL, gRetO, gDrop, gTgt, gT, gsC, gsN, gN, gFor, gApp, gExt, gFrz, gNil, gExc, eVar, eC, e1, e2, eA, aNil, aCons, eTup, eLst, eCall, lCall, listR, eChain, tV, tAndD, tOrD, tNotD, eAnd, eOr, eNot, eIf, eL, lDisp, lList, lRep, oNone, oSome, eSl, iSeq, iRng1, iRng2, iZipD, iEnumD, iRevD, lListRange, lLc, eSorted, eSortSet, eLenSet, eBor, tBor, tYesD, noE, toB, dCmp, dSub, dNeg, dInt, dLen, dIs, dIsNot, List.map_cons, List.map_nil, List.length_cons, List.length_nil, Nat.reduceAdd, Nat.reduceSub, Nat.reduceLeDiff, List.replicate, List.cons_append, List.nil_append, List.append_nil, List.getElem?_cons_zero, List.getElem?_cons_succ, List.set_cons_zero, List.set_cons_succ, if_true, if_false, reduceIte, Bool.not_true, Bool.not_false, Bool.false_eq_true, reduceCtorEq, e]
    cases f (c :: r) p <;> simp only [dIx_t0, dIx_t1, dIx_l0, dIx_l1, toItems, itemsOf, runF, runL, startE, endF, endL, R.bind_ok, R.bind_exc, R.bind_stuck, gSeq, gIf, gSet, gOwn, gRet, gRetL, gRetO, gDrop, gTgt, gT, gsC, gsN, gN, gFor, gApp, gExt, gFrz, gNil, gExc, eVar, eC, e1, e2, eA, aNil, aCons, eTup, eLst, eCall, lCall, listR, eChain, tV, tAndD, tOrD, tNotD, eAnd, eOr, eNot, eIf, eL, lDisp, lList, lRep, oNone, oSome, eSl, iSeq, iRng1, iRng2, iZipD, iEnumD, iRevD, lListRange, lLc, eSorted, eSortSet, eLenSet, eBor, tBor, tYesD, noE, toB, dCmp, dSub, dNeg, dInt, dLen, dIs, dIsNot, List.map_cons, List.map_nil, List.length_cons, List.length_nil, Nat.reduceAdd, Nat.reduceSub, Nat.reduceLeDiff, List.replicate, List.cons_append, List.nil_append, List.append_nil, List.getElem?_cons_zero, List.getElem?_cons_succ, List.set_cons_zero, List.set_cons_succ, if_true, if_false, reduceIte, Bool.not_true, Bool.not_false, Bool.false_eq_true, reduceCtorEq]
theorem ltop_eq {m : Nat} {cs : List (List Int)} (hc : ∀ c ∈ cs, CaseOk m c) (hl : cs.length ≤ 100) {n : Nat} {f : List (List Int) → D → Bool} {g : D → Prop} (t : D) (ht : fineT m t g) (hg : ∀ p, g p → Calls m (F__law_is_plan n) f p) :
    F__law_is_plan (n + 1) [.int m, .list (cs.map encC), t] = .ok (.bool (topB m cs t f)) := by
  show runF 7 (g__law_is_plan (F__law_is_plan n)) _ = _
  unfold g__law_is_plan
  simp only [dIx_t0, dIx_t1, dIx_l0, dIx_l1, toItems, itemsOf, runF, runL, startE, endF, endL, R.bind_ok, R.bind_exc, R.bind_stuck, gSeq, gIf, gSet, gOwn, gRet, gRetL, gRetO, gDrop, gTgt, gT, gsC, gsN, gN, gFor, gApp, gExt, gFrz, gNil, gExc, eVar, eC, e1, e2, eA, aNil, aCons, eTup, eLst, eCall, lCall, listR, eChain, tV, tAndD, tOrD, tNotD, eAnd, eOr, eNot, eIf, eL, lDisp, lList, lRep, oNone, oSome, eSl, iSeq, iRng1, iRng2, iZipD, iEnumD, iRevD, lListRange, lLc, eSorted, eSortSet, eLenSet, eBor, tBor, tYesD, noE, toB, dCmp, dSub, dNeg, dInt, dLen, dIs, dIsNot, List.map_cons, List.map_nil, List.length_cons, List.length_nil, Nat.reduceAdd, Nat.reduceSub, Nat.reduceLeDiff, List.replicate, List.cons_append, List.nil_append, List.append_nil, List.getElem?_cons_zero, List.getElem?_cons_succ, List.set_cons_zero, List.set_cons_succ, if_true, if_false, reduceIte, Bool.not_true, Bool.not_false, Bool.false_eq_true, reduceCtorEq, isi_tuple t ht.1]
  cases t
  case tuple xs =>
    obtain ⟨hty, hs⟩ := ht.2 xs rfl
    match xs, hty, hs with
    | [], _, _ => simp only [dIx_pick, dMod, dDiv, dList, dTuple, dRev, dSl, Int.reduceLT, Int.reduceLE, Int.reduceEq, Int.reduceSub, Int.reduceAdd, and_self, true_and, and_true, and_false, false_and, Int.cast_ofNat_Int, decide_true, decide_false, Bool.true_and, Bool.false_and, Bool.and_true, Bool.and_false, dIx_t0, dIx_t1, dIx_l0, dIx_l1, toItems, itemsOf, runF, runL, startE, endF, endL, R.bind_ok, R.bind_exc, R.bind_stuck, gSeq, gIf, gSet, gOwn, gRet, gRetL, gRetO, gDrop, gTgt, gT, gsC, gsN, gN, gFor, gApp, gExt, gFrz, gNil, gExc, eVar, eC, e1, e2, eA, aNil, aCons, eTup, eLst, eCall, lCall, listR, eChain, tV, tAndD, tOrD, tNotD, eAnd, eOr, eNot, eIf, eL, lDisp, lList, lRep, oNone, oSome, eSl, iSeq, iRng1, iRng2, iZipD, iEnumD, iRevD, lListRange, lLc, eSorted, eSortSet, eLenSet, eBor, tBor, tYesD, noE, toB, dCmp, dSub, dNeg, dInt, dLen, dIs, dIsNot, List.map_cons, List.map_nil, List.length_cons, List.length_nil, Nat.reduceAdd, Nat.reduceSub, Nat.reduceLeDiff, List.replicate, List.cons_append, List.nil_append, List.append_nil, List.getElem?_cons_zero, List.getElem?_cons_succ, List.set_cons_zero, List.set_cons_succ, if_true, if_false, reduceIte, Bool.not_true, Bool.not_false, Bool.false_eq_true, reduceCtorEq, topB]
    | [y], _, _ => simp only [dIx_pick, dMod, dDiv, dList, dTuple, dRev, dSl, Int.reduceLT, Int.reduceLE, Int.reduceEq, Int.reduceSub, Int.reduceAdd, and_self, true_and, and_true, and_false, false_and, Int.cast_ofNat_Int, decide_true, decide_false, Bool.true_and, Bool.false_and, Bool.and_true, Bool.and_false, dIx_t0, dIx_t1, dIx_l0, dIx_l1, toItems, itemsOf, runF, runL, startE, endF, endL, R.bind_ok, R.bind_exc, R.bind_stuck, gSeq, gIf, gSet, gOwn, gRet, gRetL, gRetO, gDrop, gTgt, gT, gsC, gsN, gN, gFor, gApp, gExt, gFrz, gNil, gExc, eVar, eC, e1, e2, eA, aNil, aCons, eTup, eLst, eCall, lCall, listR, eChain, tV, tAndD, tOrD, tNotD, eAnd, eOr, eNot, eIf, eL, lDisp, lList, lRep, oNone, oSome, eSl, iSeq, iRng1, iRng2, iZipD, iEnumD, iRevD, lListRange, lLc, eSorted, eSortSet, eLenSet, eBor, tBor, tYesD, noE, toB, dCmp, dSub, dNeg, dInt, dLen, dIs, dIsNot, List.map_cons, List.map_nil, List.length_cons, List.length_nil, Nat.reduceAdd, Nat.reduceSub, Nat.reduceLeDiff, List.replicate, List.cons_append, List.nil_append, List.append_nil, List.getElem?_cons_zero, List.getElem?_cons_succ, List.set_cons_zero, List.set_cons_succ, if_true, if_false, reduceIte, Bool.not_true, Bool.not_false, Bool.false_eq_true, reduceCtorEq, topB]
    | y :: x :: rest, hty, hs =>
      have l2 : ¬ (((rest.length + 1 + 1 : Nat) : Int) < 2) := by omega
      simp only [dIx_t0, dIx_t1, dIx_l0, dIx_l1, toItems, itemsOf, runF, runL, startE, endF, endL, R.bind_ok, R.bind_exc, R.bind_stuck, gSeq, gIf, gSet, gOwn, gRet, gRetL, gRetO, gDrop, gTgt, gT, gsC, gsN, gN, gFor, gApp, gExt, gFrz, gNil, gExc, eVar, eC, e1, e2, eA, aNil, aCons, eTup, eLst, eCall, lCall, listR, eChain, tV, tAndD, tOrD, tNotD, eAnd, eOr, eNot, eIf, eL, lDisp, lList, lRep, oNone, oSome, eSl, iSeq, iRng1, iRng2, iZipD, iEnumD, iRevD, lListRange, lLc, eSorted, eSortSet, eLenSet, eBor, tBor, tYesD, noE, toB, dCmp, dSub, dNeg, dInt, dLen, dIs, dIsNot, List.map_cons, List.map_nil, List.length_cons, List.length_nil, Nat.reduceAdd, Nat.reduceSub, Nat.reduceLeDiff, List.replicate, List.cons_append, List.nil_append, List.append_nil, List.getElem?_cons_zero, List.getElem?_cons_succ, List.set_cons_zero, List.set_cons_succ, if_true, if_false, reduceIte, Bool.not_true, Bool.not_false, Bool.false_eq_true, reduceCtorEq, decide_eq_false l2, isi_str y (hty y (by simp))]
      cases y
      case str s =>
        obtain ⟨os, hx, hps⟩ := hs s x rest rfl
        simp only [dIx_t0, dIx_t1, dIx_l0, dIx_l1, toItems, itemsOf, runF, runL, startE, endF, endL, R.bind_ok, R.bind_exc, R.bind_stuck, gSeq, gIf, gSet, gOwn, gRet, gRetL, gRetO, gDrop, gTgt, gT, gsC, gsN, gN, gFor, gApp, gExt, gFrz, gNil, gExc, eVar, eC, e1, e2, eA, aNil, aCons, eTup, eLst, eCall, lCall, listR, eChain, tV, tAndD, tOrD, tNotD, eAnd, eOr, eNot, eIf, eL, lDisp, lList, lRep, oNone, oSome, eSl, iSeq, iRng1, iRng2, iZipD, iEnumD, iRevD, lListRange, lLc, eSorted, eSortSet, eLenSet, eBor, tBor, tYesD, noE, toB, dCmp, dSub, dNeg, dInt, dLen, dIs, dIsNot, List.map_cons, List.map_nil, List.length_cons, List.length_nil, Nat.reduceAdd, Nat.reduceSub, Nat.reduceLeDiff, List.replicate, List.cons_append, List.nil_append, List.append_nil, List.getElem?_cons_zero, List.getElem?_cons_succ, List.set_cons_zero, List.set_cons_succ, if_true, if_false, reduceIte, Bool.not_true, Bool.not_false, Bool.false_eq_true, reduceCtorEq, dEq_str os okTold]
        by_cases h1 : s = sTold
        · subst h1
          simp only [dIx_t0, dIx_t1, dIx_l0, dIx_l1, toItems, itemsOf, runF, runL, startE, endF, endL, R.bind_ok, R.bind_exc, R.bind_stuck, gSeq, gIf, gSet, gOwn, gRet, gRetL, gRetO, gDrop, gTgt, gT, gsC, gsN, gN, gFor, gApp, gExt, gFrz, gNil, gExc, eVar, eC, e1, e2, eA, aNil, aCons, eTup, eLst, eCall, lCall, listR, eChain, tV, tAndD, tOrD, tNotD, eAnd, eOr, eNot, eIf, eL, lDisp, lList, lRep, oNone, oSome, eSl, iSeq, iRng1, iRng2, iZipD, iEnumD, iRevD, lListRange, lLc, eSorted, eSortSet, eLenSet, eBor, tBor, tYesD, noE, toB, dCmp, dSub, dNeg, dInt, dLen, dIs, dIsNot, List.map_cons, List.map_nil, List.length_cons, List.length_nil, Nat.reduceAdd, Nat.reduceSub, Nat.reduceLeDiff, List.replicate, List.cons_append, List.nil_append, List.append_nil, List.getElem?_cons_zero, List.getElem?_cons_succ, List.set_cons_zero, List.set_cons_succ, if_true, if_false, reduceIte, Bool.not_true, Bool.not_false, Bool.false_eq_true, reduceCtorEq, decide_true, dEq_int, List.length_map, topB]
          cases rest with
          | nil =>
            have e : decide ((((0 : Nat) + 1 + 1 : Nat) : Int) = 2) = true := by decide
            simp only [dIx_t0, dIx_t1, dIx_l0, dIx_l1, toItems, itemsOf, runF, runL, startE, endF, endL, R.bind_ok, R.bind_exc, R.bind_stuck, gSeq, gIf, gSet, gOwn, gRet, gRetL, gRetO, gDrop, gTgt, gT, gsC, gsN, gN, gFor, gApp, gExt, gFrz, gNil, gExc, eVar, eC, e1, e2, eA, aNil, aCons, eTup, eLst, eCall, lCall, listR, eChain, tV, tAndD, tOrD, tNotD, eAnd, eOr, eNot, eIf, eL, lDisp, lList, lRep, oNone, oSome, eSl, iSeq, iRng1, iRng2, iZipD, iEnumD, iRevD, lListRange, lLc, eSorted, eSortSet, eLenSet, eBor, tBor, tYesD, noE, toB, dCmp, dSub, dNeg, dInt, dLen, dIs, dIsNot, List.map_cons, List.map_nil, List.length_cons, List.length_nil, Nat.reduceAdd, Nat.reduceSub, Nat.reduceLeDiff, List.replicate, List.cons_append, List.nil_append, List.append_nil, List.getElem?_cons_zero, List.getElem?_cons_succ, List.set_cons_zero, List.set_cons_succ, if_true, if_false, reduceIte, Bool.not_true, Bool.not_false, Bool.false_eq_true, reduceCtorEq, e]
            match cs, hc with
            | [], _ => simp only [dIx_pick, dMod, dDiv, dList, dTuple, dRev, dSl, Int.reduceLT, Int.reduceLE, Int.reduceEq, Int.reduceSub, Int.reduceAdd, and_self, true_and, and_true, and_false, false_and, Int.cast_ofNat_Int, decide_true, decide_false, Bool.true_and, Bool.false_and, Bool.and_true, Bool.and_false, dIx_t0, dIx_t1, dIx_l0, dIx_l1, toItems, itemsOf, runF, runL, startE, endF, endL, R.bind_ok, R.bind_exc, R.bind_stuck, gSeq, gIf, gSet, gOwn, gRet, gRetL, gRetO, gDrop, gTgt, gT, gsC, gsN, gN, gFor, gApp, gExt, gFrz, gNil, gExc, eVar, eC, e1, e2, eA, aNil, aCons, eTup, eLst, eCall, lCall, listR, eChain, tV, tAndD, tOrD, tNotD, eAnd, eOr, eNot, eIf, eL, lDisp, lList, lRep, oNone, oSome, eSl, iSeq, iRng1, iRng2, iZipD, iEnumD, iRevD, lListRange, lLc, eSorted, eSortSet, eLenSet, eBor, tBor, tYesD, noE, toB, dCmp, dSub, dNeg, dInt, dLen, dIs, dIsNot, List.map_cons, List.map_nil, List.length_cons, List.length_nil, Nat.reduceAdd, Nat.reduceSub, Nat.reduceLeDiff, List.replicate, List.cons_append, List.nil_append, List.append_nil, List.getElem?_cons_zero, List.getElem?_cons_succ, List.set_cons_zero, List.set_cons_succ, if_true, if_false, reduceIte, Bool.not_true, Bool.not_false, Bool.false_eq_true, reduceCtorEq, toldB]
            | [c], hc => simp only [dIx_pick, dMod, dDiv, dList, dTuple, dRev, dSl, Int.reduceLT, Int.reduceLE, Int.reduceEq, Int.reduceSub, Int.reduceAdd, and_self, true_and, and_true, and_false, false_and, Int.cast_ofNat_Int, decide_true, decide_false, Bool.true_and, Bool.false_and, Bool.and_true, Bool.and_false, dIx_t0, dIx_t1, dIx_l0, dIx_l1, toItems, itemsOf, runF, runL, startE, endF, endL, R.bind_ok, R.bind_exc, R.bind_stuck, gSeq, gIf, gSet, gOwn, gRet, gRetL, gRetO, gDrop, gTgt, gT, gsC, gsN, gN, gFor, gApp, gExt, gFrz, gNil, gExc, eVar, eC, e1, e2, eA, aNil, aCons, eTup, eLst, eCall, lCall, listR, eChain, tV, tAndD, tOrD, tNotD, eAnd, eOr, eNot, eIf, eL, lDisp, lList, lRep, oNone, oSome, eSl, iSeq, iRng1, iRng2, iZipD, iEnumD, iRevD, lListRange, lLc, eSorted, eSortSet, eLenSet, eBor, tBor, tYesD, noE, toB, dCmp, dSub, dNeg, dInt, dLen, dIs, dIsNot, List.map_cons, List.map_nil, List.length_cons, List.length_nil, Nat.reduceAdd, Nat.reduceSub, Nat.reduceLeDiff, List.replicate, List.cons_append, List.nil_append, List.append_nil, List.getElem?_cons_zero, List.getElem?_cons_succ, List.set_cons_zero, List.set_cons_succ, if_true, if_false, reduceIte, Bool.not_true, Bool.not_false, Bool.false_eq_true, reduceCtorEq, toldB, F__law_is_case_told_eq c (hc c (by simp)) x hx.flat]
            | c :: c2 :: r, _ =>
              have e : ¬ (((r.length + 1 + 1 : Nat) : Int) = 1) := by omega
              simp only [dIx_t0, dIx_t1, dIx_l0, dIx_l1, toItems, itemsOf, runF, runL, startE, endF, endL, R.bind_ok, R.bind_exc, R.bind_stuck, gSeq, gIf, gSet, gOwn, gRet, gRetL, gRetO, gDrop, gTgt, gT, gsC, gsN, gN, gFor, gApp, gExt, gFrz, gNil, gExc, eVar, eC, e1, e2, eA, aNil, aCons, eTup, eLst, eCall, lCall, listR, eChain, tV, tAndD, tOrD, tNotD, eAnd, eOr, eNot, eIf, eL, lDisp, lList, lRep, oNone, oSome, eSl, iSeq, iRng1, iRng2, iZipD, iEnumD, iRevD, lListRange, lLc, eSorted, eSortSet, eLenSet, eBor, tBor, tYesD, noE, toB, dCmp, dSub, dNeg, dInt, dLen, dIs, dIsNot, List.map_cons, List.map_nil, List.length_cons, List.length_nil, Nat.reduceAdd, Nat.reduceSub, Nat.reduceLeDiff, List.replicate, List.cons_append, List.nil_append, List.append_nil, List.getElem?_cons_zero, List.getElem?_cons_succ, List.set_cons_zero, List.set_cons_succ, if_true, if_false, reduceIte, Bool.not_true, Bool.not_false, Bool.false_eq_true, reduceCtorEq, decide_eq_false e, toldB]
          | cons z r =>
            have e : ¬ (((r.length + 1 + 1 + 1 : Nat) : Int) = 2) := by omega
            simp only [dIx_t0, dIx_t1, dIx_l0, dIx_l1, toItems, itemsOf, runF, runL, startE, endF, endL, R.bind_ok, R.bind_exc, R.bind_stuck, gSeq, gIf, gSet, gOwn, gRet, gRetL, gRetO, gDrop, gTgt, gT, gsC, gsN, gN, gFor, gApp, gExt, gFrz, gNil, gExc, eVar, eC, e1, e2, eA, aNil, aCons, eTup, eLst, eCall, lCall, listR, eChain, tV, tAndD, tOrD, tNotD, eAnd, eOr, eNot, eIf, eL, lDisp, lList, lRep, oNone, oSome, eSl, iSeq, iRng1, iRng2, iZipD, iEnumD, iRevD, lListRange, lLc, eSorted, eSortSet, eLenSet, eBor, tBor, tYesD, noE, toB, dCmp, dSub, dNeg, dInt, dLen, dIs, dIsNot, List.map_cons, List.map_nil, List.length_cons, List.length_nil, Nat.reduceAdd, Nat.reduceSub, Nat.reduceLeDiff, List.replicate, List.cons_append, List.nil_append, List.append_nil, List.getElem?_cons_zero, List.getElem?_cons_succ, List.set_cons_zero, List.set_cons_succ, if_true, if_false, reduceIte, Bool.not_true, Bool.not_false, Bool.false_eq_true, reduceCtorEq, decide_eq_false e, toldB]
        · simp only [dIx_t0, dIx_t1, dIx_l0, dIx_l1, toItems, itemsOf, runF, runL, startE, endF, endL, R.bind_ok, R.bind_exc, R.bind_stuck, gSeq, gIf, gSet, gOwn, gRet, gRetL, gRetO, gDrop, gTgt, gT, gsC, gsN, gN, gFor, gApp, gExt, gFrz, gNil, gExc, eVar, eC, e1, e2, eA, aNil, aCons, eTup, eLst, eCall, lCall, listR, eChain, tV, tAndD, tOrD, tNotD, eAnd, eOr, eNot, eIf, eL, lDisp, lList, lRep, oNone, oSome, eSl, iSeq, iRng1, iRng2, iZipD, iEnumD, iRevD, lListRange, lLc, eSorted, eSortSet, eLenSet, eBor, tBor, tYesD, noE, toB, dCmp, dSub, dNeg, dInt, dLen, dIs, dIsNot, List.map_cons, List.map_nil, List.length_cons, List.length_nil, Nat.reduceAdd, Nat.reduceSub, Nat.reduceLeDiff, List.replicate, List.cons_append, List.nil_append, List.append_nil, List.getElem?_cons_zero, List.getElem?_cons_succ, List.set_cons_zero, List.set_cons_succ, if_true, if_false, reduceIte, Bool.not_true, Bool.not_false, Bool.false_eq_true, reduceCtorEq, decide_eq_false h1, dNe_str os okWeigh, topB, if_neg h1]
          by_cases h2 : s = sWeigh
          · subst h2
            simp only [dIx_t0, dIx_t1, dIx_l0, dIx_l1, toItems, itemsOf, runF, runL, startE, endF, endL, R.bind_ok, R.bind_exc, R.bind_stuck, gSeq, gIf, gSet, gOwn, gRet, gRetL, gRetO, gDrop, gTgt, gT, gsC, gsN, gN, gFor, gApp, gExt, gFrz, gNil, gExc, eVar, eC, e1, e2, eA, aNil, aCons, eTup, eLst, eCall, lCall, listR, eChain, tV, tAndD, tOrD, tNotD, eAnd, eOr, eNot, eIf, eL, lDisp, lList, lRep, oNone, oSome, eSl, iSeq, iRng1, iRng2, iZipD, iEnumD, iRevD, lListRange, lLc, eSorted, eSortSet, eLenSet, eBor, tBor, tYesD, noE, toB, dCmp, dSub, dNeg, dInt, dLen, dIs, dIsNot, List.map_cons, List.map_nil, List.length_cons, List.length_nil, Nat.reduceAdd, Nat.reduceSub, Nat.reduceLeDiff, List.replicate, List.cons_append, List.nil_append, List.append_nil, List.getElem?_cons_zero, List.getElem?_cons_succ, List.set_cons_zero, List.set_cons_succ, if_true, if_false, reduceIte, Bool.not_true, Bool.not_false, Bool.false_eq_true, reduceCtorEq, decide_true, dNe_int]
            match rest, hps with
            | [], _ => simp only [dIx_pick, dMod, dDiv, dList, dTuple, dRev, dSl, Int.reduceLT, Int.reduceLE, Int.reduceEq, Int.reduceSub, Int.reduceAdd, and_self, true_and, and_true, and_false, false_and, Int.cast_ofNat_Int, decide_true, decide_false, Bool.true_and, Bool.false_and, Bool.and_true, Bool.and_false, dIx_t0, dIx_t1, dIx_l0, dIx_l1, toItems, itemsOf, runF, runL, startE, endF, endL, R.bind_ok, R.bind_exc, R.bind_stuck, gSeq, gIf, gSet, gOwn, gRet, gRetL, gRetO, gDrop, gTgt, gT, gsC, gsN, gN, gFor, gApp, gExt, gFrz, gNil, gExc, eVar, eC, e1, e2, eA, aNil, aCons, eTup, eLst, eCall, lCall, listR, eChain, tV, tAndD, tOrD, tNotD, eAnd, eOr, eNot, eIf, eL, lDisp, lList, lRep, oNone, oSome, eSl, iSeq, iRng1, iRng2, iZipD, iEnumD, iRevD, lListRange, lLc, eSorted, eSortSet, eLenSet, eBor, tBor, tYesD, noE, toB, dCmp, dSub, dNeg, dInt, dLen, dIs, dIsNot, List.map_cons, List.map_nil, List.length_cons, List.length_nil, Nat.reduceAdd, Nat.reduceSub, Nat.reduceLeDiff, List.replicate, List.cons_append, List.nil_append, List.append_nil, List.getElem?_cons_zero, List.getElem?_cons_succ, List.set_cons_zero, List.set_cons_succ, if_true, if_false, reduceIte, Bool.not_true, Bool.not_false, Bool.false_eq_true, reduceCtorEq, weighB]
            | z1 :: z2 :: r, _ =>
              have e : ¬ (((r.length + 1 + 1 + 1 + 1 : Nat) : Int) = 3) := by omega
              simp only [dIx_t0, dIx_t1, dIx_l0, dIx_l1, toItems, itemsOf, runF, runL, startE, endF, endL, R.bind_ok, R.bind_exc, R.bind_stuck, gSeq, gIf, gSet, gOwn, gRet, gRetL, gRetO, gDrop, gTgt, gT, gsC, gsN, gN, gFor, gApp, gExt, gFrz, gNil, gExc, eVar, eC, e1, e2, eA, aNil, aCons, eTup, eLst, eCall, lCall, listR, eChain, tV, tAndD, tOrD, tNotD, eAnd, eOr, eNot, eIf, eL, lDisp, lList, lRep, oNone, oSome, eSl, iSeq, iRng1, iRng2, iZipD, iEnumD, iRevD, lListRange, lLc, eSorted, eSortSet, eLenSet, eBor, tBor, tYesD, noE, toB, dCmp, dSub, dNeg, dInt, dLen, dIs, dIsNot, List.map_cons, List.map_nil, List.length_cons, List.length_nil, Nat.reduceAdd, Nat.reduceSub, Nat.reduceLeDiff, List.replicate, List.cons_append, List.nil_append, List.append_nil, List.getElem?_cons_zero, List.getElem?_cons_succ, List.set_cons_zero, List.set_cons_succ, if_true, if_false, reduceIte, Bool.not_true, Bool.not_false, Bool.false_eq_true, reduceCtorEq, decide_eq_false e, weighB]
            | [z], hps =>
              have e : decide ((((0 : Nat) + 1 + 1 + 1 : Nat) : Int) = 3) = true := by decide
              have hxw : (sh 61 x ∧ ∀ xs, x = .tuple xs → ∀ ys, .tuple ys ∈ xs → ys.length ≤ 30) ∨ x = .dict [] := .inl ⟨sh_up hx.1 (by decide), fun us e ys h => (hx.2 us e).2 ys h⟩
              simp only [dIx_t0, dIx_t1, dIx_l0, dIx_l1, toItems, itemsOf, runF, runL, startE, endF, endL, R.bind_ok, R.bind_exc, R.bind_stuck, gSeq, gIf, gSet, gOwn, gRet, gRetL, gRetO, gDrop, gTgt, gT, gsC, gsN, gN, gFor, gApp, gExt, gFrz, gNil, gExc, eVar, eC, e1, e2, eA, aNil, aCons, eTup, eLst, eCall, lCall, listR, eChain, tV, tAndD, tOrD, tNotD, eAnd, eOr, eNot, eIf, eL, lDisp, lList, lRep, oNone, oSome, eSl, iSeq, iRng1, iRng2, iZipD, iEnumD, iRevD, lListRange, lLc, eSorted, eSortSet, eLenSet, eBor, tBor, tYesD, noE, toB, dCmp, dSub, dNeg, dInt, dLen, dIs, dIsNot, List.map_cons, List.map_nil, List.length_cons, List.length_nil, Nat.reduceAdd, Nat.reduceSub, Nat.reduceLeDiff, List.replicate, List.cons_append, List.nil_append, List.append_nil, List.getElem?_cons_zero, List.getElem?_cons_succ, List.set_cons_zero, List.set_cons_succ, if_true, if_false, reduceIte, Bool.not_true, Bool.not_false, Bool.false_eq_true, reduceCtorEq, e, F__law_is_weighing_eq m x hxw]
              have hz := hty z (by simp)
              cases hw : isW m x
              · simp only [dIx_t0, dIx_t1, dIx_l0, dIx_l1, toItems, itemsOf, runF, runL, startE, endF, endL, R.bind_ok, R.bind_exc, R.bind_stuck, gSeq, gIf, gSet, gOwn, gRet, gRetL, gRetO, gDrop, gTgt, gT, gsC, gsN, gN, gFor, gApp, gExt, gFrz, gNil, gExc, eVar, eC, e1, e2, eA, aNil, aCons, eTup, eLst, eCall, lCall, listR, eChain, tV, tAndD, tOrD, tNotD, eAnd, eOr, eNot, eIf, eL, lDisp, lList, lRep, oNone, oSome, eSl, iSeq, iRng1, iRng2, iZipD, iEnumD, iRevD, lListRange, lLc, eSorted, eSortSet, eLenSet, eBor, tBor, tYesD, noE, toB, dCmp, dSub, dNeg, dInt, dLen, dIs, dIsNot, List.map_cons, List.map_nil, List.length_cons, List.length_nil, Nat.reduceAdd, Nat.reduceSub, Nat.reduceLeDiff, List.replicate, List.cons_append, List.nil_append, List.append_nil, List.getElem?_cons_zero, List.getElem?_cons_succ, List.set_cons_zero, List.set_cons_succ, if_true, if_false, reduceIte, Bool.not_true, Bool.not_false, Bool.false_eq_true, reduceCtorEq]
                unfold weighB
                split
                · rw [hw]; rfl
                · rfl
              · simp only [dIx_t0, dIx_t1, dIx_l0, dIx_l1, toItems, itemsOf, runF, runL, startE, endF, endL, R.bind_ok, R.bind_exc, R.bind_stuck, gSeq, gIf, gSet, gOwn, gRet, gRetL, gRetO, gDrop, gTgt, gT, gsC, gsN, gN, gFor, gApp, gExt, gFrz, gNil, gExc, eVar, eC, e1, e2, eA, aNil, aCons, eTup, eLst, eCall, lCall, listR, eChain, tV, tAndD, tOrD, tNotD, eAnd, eOr, eNot, eIf, eL, lDisp, lList, lRep, oNone, oSome, eSl, iSeq, iRng1, iRng2, iZipD, iEnumD, iRevD, lListRange, lLc, eSorted, eSortSet, eLenSet, eBor, tBor, tYesD, noE, toB, dCmp, dSub, dNeg, dInt, dLen, dIs, dIsNot, List.map_cons, List.map_nil, List.length_cons, List.length_nil, Nat.reduceAdd, Nat.reduceSub, Nat.reduceLeDiff, List.replicate, List.cons_append, List.nil_append, List.append_nil, List.getElem?_cons_zero, List.getElem?_cons_succ, List.set_cons_zero, List.set_cons_succ, if_true, if_false, reduceIte, Bool.not_true, Bool.not_false, Bool.false_eq_true, reduceCtorEq, ix2, isi_tuple z hz]
                cases z
                case tuple ps =>
                  obtain ⟨_, hp⟩ := hps ps rfl
                  have hp := hp rfl hw
                  simp only [dIx_t0, dIx_t1, dIx_l0, dIx_l1, toItems, itemsOf, runF, runL, startE, endF, endL, R.bind_ok, R.bind_exc, R.bind_stuck, gSeq, gIf, gSet, gOwn, gRet, gRetL, gRetO, gDrop, gTgt, gT, gsC, gsN, gN, gFor, gApp, gExt, gFrz, gNil, gExc, eVar, eC, e1, e2, eA, aNil, aCons, eTup, eLst, eCall, lCall, listR, eChain, tV, tAndD, tOrD, tNotD, eAnd, eOr, eNot, eIf, eL, lDisp, lList, lRep, oNone, oSome, eSl, iSeq, iRng1, iRng2, iZipD, iEnumD, iRevD, lListRange, lLc, eSorted, eSortSet, eLenSet, eBor, tBor, tYesD, noE, toB, dCmp, dSub, dNeg, dInt, dLen, dIs, dIsNot, List.map_cons, List.map_nil, List.length_cons, List.length_nil, Nat.reduceAdd, Nat.reduceSub, Nat.reduceLeDiff, List.replicate, List.cons_append, List.nil_append, List.append_nil, List.getElem?_cons_zero, List.getElem?_cons_succ, List.set_cons_zero, List.set_cons_succ, if_true, if_false, reduceIte, Bool.not_true, Bool.not_false, Bool.false_eq_true, reduceCtorEq, dNe_int]
                  match ps, hp with
                  | [], _ => simp only [dIx_pick, dMod, dDiv, dList, dTuple, dRev, dSl, Int.reduceLT, Int.reduceLE, Int.reduceEq, Int.reduceSub, Int.reduceAdd, and_self, true_and, and_true, and_false, false_and, Int.cast_ofNat_Int, decide_true, decide_false, Bool.true_and, Bool.false_and, Bool.and_true, Bool.and_false, dIx_t0, dIx_t1, dIx_l0, dIx_l1, toItems, itemsOf, runF, runL, startE, endF, endL, R.bind_ok, R.bind_exc, R.bind_stuck, gSeq, gIf, gSet, gOwn, gRet, gRetL, gRetO, gDrop, gTgt, gT, gsC, gsN, gN, gFor, gApp, gExt, gFrz, gNil, gExc, eVar, eC, e1, e2, eA, aNil, aCons, eTup, eLst, eCall, lCall, listR, eChain, tV, tAndD, tOrD, tNotD, eAnd, eOr, eNot, eIf, eL, lDisp, lList, lRep, oNone, oSome, eSl, iSeq, iRng1, iRng2, iZipD, iEnumD, iRevD, lListRange, lLc, eSorted, eSortSet, eLenSet, eBor, tBor, tYesD, noE, toB, dCmp, dSub, dNeg, dInt, dLen, dIs, dIsNot, List.map_cons, List.map_nil, List.length_cons, List.length_nil, Nat.reduceAdd, Nat.reduceSub, Nat.reduceLeDiff, List.replicate, List.cons_append, List.nil_append, List.append_nil, List.getElem?_cons_zero, List.getElem?_cons_succ, List.set_cons_zero, List.set_cons_succ, if_true, if_false, reduceIte, Bool.not_true, Bool.not_false, Bool.false_eq_true, reduceCtorEq, weighB]
                  | [_], _ => simp only [dIx_pick, dMod, dDiv, dList, dTuple, dRev, dSl, Int.reduceLT, Int.reduceLE, Int.reduceEq, Int.reduceSub, Int.reduceAdd, and_self, true_and, and_true, and_false, false_and, Int.cast_ofNat_Int, decide_true, decide_false, Bool.true_and, Bool.false_and, Bool.and_true, Bool.and_false, dIx_t0, dIx_t1, dIx_l0, dIx_l1, toItems, itemsOf, runF, runL, startE, endF, endL, R.bind_ok, R.bind_exc, R.bind_stuck, gSeq, gIf, gSet, gOwn, gRet, gRetL, gRetO, gDrop, gTgt, gT, gsC, gsN, gN, gFor, gApp, gExt, gFrz, gNil, gExc, eVar, eC, e1, e2, eA, aNil, aCons, eTup, eLst, eCall, lCall, listR, eChain, tV, tAndD, tOrD, tNotD, eAnd, eOr, eNot, eIf, eL, lDisp, lList, lRep, oNone, oSome, eSl, iSeq, iRng1, iRng2, iZipD, iEnumD, iRevD, lListRange, lLc, eSorted, eSortSet, eLenSet, eBor, tBor, tYesD, noE, toB, dCmp, dSub, dNeg, dInt, dLen, dIs, dIsNot, List.map_cons, List.map_nil, List.length_cons, List.length_nil, Nat.reduceAdd, Nat.reduceSub, Nat.reduceLeDiff, List.replicate, List.cons_append, List.nil_append, List.append_nil, List.getElem?_cons_zero, List.getElem?_cons_succ, List.set_cons_zero, List.set_cons_succ, if_true, if_false, reduceIte, Bool.not_true, Bool.not_false, Bool.false_eq_true, reduceCtorEq, weighB]
                  | [_, _], _ => simp only [dIx_pick, dMod, dDiv, dList, dTuple, dRev, dSl, Int.reduceLT, Int.reduceLE, Int.reduceEq, Int.reduceSub, Int.reduceAdd, and_self, true_and, and_true, and_false, false_and, Int.cast_ofNat_Int, decide_true, decide_false, Bool.true_and, Bool.false_and, Bool.and_true, Bool.and_false, dIx_t0, dIx_t1, dIx_l0, dIx_l1, toItems, itemsOf, runF, runL, startE, endF, endL, R.bind_ok, R.bind_exc, R.bind_stuck, gSeq, gIf, gSet, gOwn, gRet, gRetL, gRetO, gDrop, gTgt, gT, gsC, gsN, gN, gFor, gApp, gExt, gFrz, gNil, gExc, eVar, eC, e1, e2, eA, aNil, aCons, eTup, eLst, eCall, lCall, listR, eChain, tV, tAndD, tOrD, tNotD, eAnd, eOr, eNot, eIf, eL, lDisp, lList, lRep, oNone, oSome, eSl, iSeq, iRng1, iRng2, iZipD, iEnumD, iRevD, lListRange, lLc, eSorted, eSortSet, eLenSet, eBor, tBor, tYesD, noE, toB, dCmp, dSub, dNeg, dInt, dLen, dIs, dIsNot, List.map_cons, List.map_nil, List.length_cons, List.length_nil, Nat.reduceAdd, Nat.reduceSub, Nat.reduceLeDiff, List.replicate, List.cons_append, List.nil_append, List.append_nil, List.getElem?_cons_zero, List.getElem?_cons_succ, List.set_cons_zero, List.set_cons_succ, if_true, if_false, reduceIte, Bool.not_true, Bool.not_false, Bool.false_eq_true, reduceCtorEq, weighB]
                  | p0 :: p1 :: p2 :: p3 :: r, _ =>
                    have e : ¬ (((r.length + 1 + 1 + 1 + 1 : Nat) : Int) = 3) := by omega
                    simp only [dIx_t0, dIx_t1, dIx_l0, dIx_l1, toItems, itemsOf, runF, runL, startE, endF, endL, R.bind_ok, R.bind_exc, R.bind_stuck, gSeq, gIf, gSet, gOwn, gRet, gRetL, gRetO, gDrop, gTgt, gT, gsC, gsN, gN, gFor, gApp, gExt, gFrz, gNil, gExc, eVar, eC, e1, e2, eA, aNil, aCons, eTup, eLst, eCall, lCall, listR, eChain, tV, tAndD, tOrD, tNotD, eAnd, eOr, eNot, eIf, eL, lDisp, lList, lRep, oNone, oSome, eSl, iSeq, iRng1, iRng2, iZipD, iEnumD, iRevD, lListRange, lLc, eSorted, eSortSet, eLenSet, eBor, tBor, tYesD, noE, toB, dCmp, dSub, dNeg, dInt, dLen, dIs, dIsNot, List.map_cons, List.map_nil, List.length_cons, List.length_nil, Nat.reduceAdd, Nat.reduceSub, Nat.reduceLeDiff, List.replicate, List.cons_append, List.nil_append, List.append_nil, List.getElem?_cons_zero, List.getElem?_cons_succ, List.set_cons_zero, List.set_cons_succ, if_true, if_false, reduceIte, Bool.not_true, Bool.not_false, Bool.false_eq_true, reduceCtorEq, decide_eq_false e, weighB]
                  | [p0, p1, p2], hp =>
                    obtain ⟨w, rfl, _⟩ := isW_enc hw
                    have wok := isW_ok hw hx
                    obtain ⟨a0, b0, e0⟩ := law_step wok hc hl 0 p0 p0 p1 p2 .no .no rfl (hg p0 (hp p0 (by simp)))
                    obtain ⟨a1, b1, e1'⟩ := law_step wok hc hl 1 p1 p0 p1 p2 a0 b0 rfl (hg p1 (hp p1 (by simp)))
                    obtain ⟨a2, b2, e2'⟩ := law_step wok hc hl 2 p2 p0 p1 p2 a1 b1 rfl (hg p2 (hp p2 (by simp)))
                    have r3 : rangeD 0 3 = [.int 0, .int 1, .int 2] := rfl
                    simp only [Int.reduceSub, Int.reduceNeg] at e0 e1' e2'
                    simp only [dIx_pick, dMod, dDiv, dList, dTuple, dRev, dSl, Int.reduceLT, Int.reduceLE, Int.reduceEq, Int.reduceSub, Int.reduceAdd, and_self, true_and, and_true, and_false, false_and, Int.cast_ofNat_Int, decide_true, decide_false, Bool.true_and, Bool.false_and, Bool.and_true, Bool.and_false, dIx_t0, dIx_t1, dIx_l0, dIx_l1, toItems, itemsOf, runF, runL, startE, endF, endL, R.bind_ok, R.bind_exc, R.bind_stuck, gSeq, gIf, gSet, gOwn, gRet, gRetL, gRetO, gDrop, gTgt, gT, gsC, gsN, gN, gFor, gApp, gExt, gFrz, gNil, gExc, eVar, eC, e1, e2, eA, aNil, aCons, eTup, eLst, eCall, lCall, listR, eChain, tV, tAndD, tOrD, tNotD, eAnd, eOr, eNot, eIf, eL, lDisp, lList, lRep, oNone, oSome, eSl, iSeq, iRng1, iRng2, iZipD, iEnumD, iRevD, lListRange, lLc, eSorted, eSortSet, eLenSet, eBor, tBor, tYesD, noE, toB, dCmp, dSub, dNeg, dInt, dLen, dIs, dIsNot, List.map_cons, List.map_nil, List.length_cons, List.length_nil, Nat.reduceAdd, Nat.reduceSub, Nat.reduceLeDiff, List.replicate, List.cons_append, List.nil_append, List.append_nil, List.getElem?_cons_zero, List.getElem?_cons_succ, List.set_cons_zero, List.set_cons_succ, if_true, if_false, reduceIte, Bool.not_true, Bool.not_false, Bool.false_eq_true, reduceCtorEq, loopF, r3, weighB, hw, decW_enc, e0]
                    by_cases b0' : partB f cs w (-1) p0 = true <;> (try simp only [Bool.not_eq_true] at b0') <;> simp only [b0']
                    case neg => simp only [dIx_t0, dIx_t1, dIx_l0, dIx_l1, toItems, itemsOf, runF, runL, startE, endF, endL, R.bind_ok, R.bind_exc, R.bind_stuck, gSeq, gIf, gSet, gOwn, gRet, gRetL, gRetO, gDrop, gTgt, gT, gsC, gsN, gN, gFor, gApp, gExt, gFrz, gNil, gExc, eVar, eC, e1, e2, eA, aNil, aCons, eTup, eLst, eCall, lCall, listR, eChain, tV, tAndD, tOrD, tNotD, eAnd, eOr, eNot, eIf, eL, lDisp, lList, lRep, oNone, oSome, eSl, iSeq, iRng1, iRng2, iZipD, iEnumD, iRevD, lListRange, lLc, eSorted, eSortSet, eLenSet, eBor, tBor, tYesD, noE, toB, dCmp, dSub, dNeg, dInt, dLen, dIs, dIsNot, List.map_cons, List.map_nil, List.length_cons, List.length_nil, Nat.reduceAdd, Nat.reduceSub, Nat.reduceLeDiff, List.replicate, List.cons_append, List.nil_append, List.append_nil, List.getElem?_cons_zero, List.getElem?_cons_succ, List.set_cons_zero, List.set_cons_succ, if_true, if_false, reduceIte, Bool.not_true, Bool.not_false, Bool.false_eq_true, reduceCtorEq, Bool.false_and]
                    case pos =>
                      simp only [dIx_t0, dIx_t1, dIx_l0, dIx_l1, toItems, itemsOf, runF, runL, startE, endF, endL, R.bind_ok, R.bind_exc, R.bind_stuck, gSeq, gIf, gSet, gOwn, gRet, gRetL, gRetO, gDrop, gTgt, gT, gsC, gsN, gN, gFor, gApp, gExt, gFrz, gNil, gExc, eVar, eC, e1, e2, eA, aNil, aCons, eTup, eLst, eCall, lCall, listR, eChain, tV, tAndD, tOrD, tNotD, eAnd, eOr, eNot, eIf, eL, lDisp, lList, lRep, oNone, oSome, eSl, iSeq, iRng1, iRng2, iZipD, iEnumD, iRevD, lListRange, lLc, eSorted, eSortSet, eLenSet, eBor, tBor, tYesD, noE, toB, dCmp, dSub, dNeg, dInt, dLen, dIs, dIsNot, List.map_cons, List.map_nil, List.length_cons, List.length_nil, Nat.reduceAdd, Nat.reduceSub, Nat.reduceLeDiff, List.replicate, List.cons_append, List.nil_append, List.append_nil, List.getElem?_cons_zero, List.getElem?_cons_succ, List.set_cons_zero, List.set_cons_succ, if_true, if_false, reduceIte, Bool.not_true, Bool.not_false, Bool.false_eq_true, reduceCtorEq, Bool.true_and, e1']
                      by_cases b1' : partB f cs w 0 p1 = true <;> (try simp only [Bool.not_eq_true] at b1') <;> simp only [b1']
                      case neg => simp only [dIx_t0, dIx_t1, dIx_l0, dIx_l1, toItems, itemsOf, runF, runL, startE, endF, endL, R.bind_ok, R.bind_exc, R.bind_stuck, gSeq, gIf, gSet, gOwn, gRet, gRetL, gRetO, gDrop, gTgt, gT, gsC, gsN, gN, gFor, gApp, gExt, gFrz, gNil, gExc, eVar, eC, e1, e2, eA, aNil, aCons, eTup, eLst, eCall, lCall, listR, eChain, tV, tAndD, tOrD, tNotD, eAnd, eOr, eNot, eIf, eL, lDisp, lList, lRep, oNone, oSome, eSl, iSeq, iRng1, iRng2, iZipD, iEnumD, iRevD, lListRange, lLc, eSorted, eSortSet, eLenSet, eBor, tBor, tYesD, noE, toB, dCmp, dSub, dNeg, dInt, dLen, dIs, dIsNot, List.map_cons, List.map_nil, List.length_cons, List.length_nil, Nat.reduceAdd, Nat.reduceSub, Nat.reduceLeDiff, List.replicate, List.cons_append, List.nil_append, List.append_nil, List.getElem?_cons_zero, List.getElem?_cons_succ, List.set_cons_zero, List.set_cons_succ, if_true, if_false, reduceIte, Bool.not_true, Bool.not_false, Bool.false_eq_true, reduceCtorEq, Bool.false_and]
                      case pos =>
                        simp only [dIx_t0, dIx_t1, dIx_l0, dIx_l1, toItems, itemsOf, runF, runL, startE, endF, endL, R.bind_ok, R.bind_exc, R.bind_stuck, gSeq, gIf, gSet, gOwn, gRet, gRetL, gRetO, gDrop, gTgt, gT, gsC, gsN, gN, gFor, gApp, gExt, gFrz, gNil, gExc, eVar, eC, e1, e2, eA, aNil, aCons, eTup, eLst, eCall, lCall, listR, eChain, tV, tAndD, tOrD, tNotD, eAnd, eOr, eNot, eIf, eL, lDisp, lList, lRep, oNone, oSome, eSl, iSeq, iRng1, iRng2, iZipD, iEnumD, iRevD, lListRange, lLc, eSorted, eSortSet, eLenSet, eBor, tBor, tYesD, noE, toB, dCmp, dSub, dNeg, dInt, dLen, dIs, dIsNot, List.map_cons, List.map_nil, List.length_cons, List.length_nil, Nat.reduceAdd, Nat.reduceSub, Nat.reduceLeDiff, List.replicate, List.cons_append, List.nil_append, List.append_nil, List.getElem?_cons_zero, List.getElem?_cons_succ, List.set_cons_zero, List.set_cons_succ, if_true, if_false, reduceIte, Bool.not_true, Bool.not_false, Bool.false_eq_true, reduceCtorEq, Bool.true_and, e2']
                        by_cases b2' : partB f cs w 1 p2 = true <;> (try simp only [Bool.not_eq_true] at b2') <;> simp only [b2'] <;> simp only [dIx_t0, dIx_t1, dIx_l0, dIx_l1, toItems, itemsOf, runF, runL, startE, endF, endL, R.bind_ok, R.bind_exc, R.bind_stuck, gSeq, gIf, gSet, gOwn, gRet, gRetL, gRetO, gDrop, gTgt, gT, gsC, gsN, gN, gFor, gApp, gExt, gFrz, gNil, gExc, eVar, eC, e1, e2, eA, aNil, aCons, eTup, eLst, eCall, lCall, listR, eChain, tV, tAndD, tOrD, tNotD, eAnd, eOr, eNot, eIf, eL, lDisp, lList, lRep, oNone, oSome, eSl, iSeq, iRng1, iRng2, iZipD, iEnumD, iRevD, lListRange, lLc, eSorted, eSortSet, eLenSet, eBor, tBor, tYesD, noE, toB, dCmp, dSub, dNeg, dInt, dLen, dIs, dIsNot, List.map_cons, List.map_nil, List.length_cons, List.length_nil, Nat.reduceAdd, Nat.reduceSub, Nat.reduceLeDiff, List.replicate, List.cons_append, List.nil_append, List.append_nil, List.getElem?_cons_zero, List.getElem?_cons_succ, List.set_cons_zero, List.set_cons_succ, if_true, if_false, reduceIte, Bool.not_true, Bool.not_false, Bool.false_eq_true, reduceCtorEq]
                all_goals simp only [dIx_t0, dIx_t1, dIx_l0, dIx_l1, toItems, itemsOf, runF, runL, startE, endF, endL, R.bind_ok, R.bind_exc, R.bind_stuck, gSeq, gIf, gSet, gOwn, gRet, gRetL, gRetO, gDrop, gTgt, gT, gsC, gsN, gN, gFor, gApp, gExt, gFrz, gNil, gExc, eVar, eC, e1, e2, eA, aNil, aCons, eTup, eLst, eCall, lCall, listR, eChain, tV, tAndD, tOrD, tNotD, eAnd, eOr, eNot, eIf, eL, lDisp, lList, lRep, oNone, oSome, eSl, iSeq, iRng1, iRng2, iZipD, iEnumD, iRevD, lListRange, lLc, eSorted, eSortSet, eLenSet, eBor, tBor, tYesD, noE, toB, dCmp, dSub, dNeg, dInt, dLen, dIs, dIsNot, List.map_cons, List.map_nil, List.length_cons, List.length_nil, Nat.reduceAdd, Nat.reduceSub, Nat.reduceLeDiff, List.replicate, List.cons_append, List.nil_append, List.append_nil, List.getElem?_cons_zero, List.getElem?_cons_succ, List.set_cons_zero, List.set_cons_succ, if_true, if_false, reduceIte, Bool.not_true, Bool.not_false, Bool.false_eq_true, reduceCtorEq, weighB]
          · simp only [dIx_t0, dIx_t1, dIx_l0, dIx_l1, toItems, itemsOf, runF, runL, startE, endF, endL, R.bind_ok, R.bind_exc, R.bind_stuck, gSeq, gIf, gSet, gOwn, gRet, gRetL, gRetO, gDrop, gTgt, gT, gsC, gsN, gN, gFor, gApp, gExt, gFrz, gNil, gExc, eVar, eC, e1, e2, eA, aNil, aCons, eTup, eLst, eCall, lCall, listR, eChain, tV, tAndD, tOrD, tNotD, eAnd, eOr, eNot, eIf, eL, lDisp, lList, lRep, oNone, oSome, eSl, iSeq, iRng1, iRng2, iZipD, iEnumD, iRevD, lListRange, lLc, eSorted, eSortSet, eLenSet, eBor, tBor, tYesD, noE, toB, dCmp, dSub, dNeg, dInt, dLen, dIs, dIsNot, List.map_cons, List.map_nil, List.length_cons, List.length_nil, Nat.reduceAdd, Nat.reduceSub, Nat.reduceLeDiff, List.replicate, List.cons_append, List.nil_append, List.append_nil, List.getElem?_cons_zero, List.getElem?_cons_succ, List.set_cons_zero, List.set_cons_succ, if_true, if_false, reduceIte, Bool.not_true, Bool.not_false, Bool.false_eq_true, reduceCtorEq, decide_eq_false h2, if_neg h2]
      all_goals simp only [dIx_t0, dIx_t1, dIx_l0, dIx_l1, toItems, itemsOf, runF, runL, startE, endF, endL, R.bind_ok, R.bind_exc, R.bind_stuck, gSeq, gIf, gSet, gOwn, gRet, gRetL, gRetO, gDrop, gTgt, gT, gsC, gsN, gN, gFor, gApp, gExt, gFrz, gNil, gExc, eVar, eC, e1, e2, eA, aNil, aCons, eTup, eLst, eCall, lCall, listR, eChain, tV, tAndD, tOrD, tNotD, eAnd, eOr, eNot, eIf, eL, lDisp, lList, lRep, oNone, oSome, eSl, iSeq, iRng1, iRng2, iZipD, iEnumD, iRevD, lListRange, lLc, eSorted, eSortSet, eLenSet, eBor, tBor, tYesD, noE, toB, dCmp, dSub, dNeg, dInt, dLen, dIs, dIsNot, List.map_cons, List.map_nil, List.length_cons, List.length_nil, Nat.reduceAdd, Nat.reduceSub, Nat.reduceLeDiff, List.replicate, List.cons_append, List.nil_append, List.append_nil, List.getElem?_cons_zero, List.getElem?_cons_succ, List.set_cons_zero, List.set_cons_succ, if_true, if_false, reduceIte, Bool.not_true, Bool.not_false, Bool.false_eq_true, reduceCtorEq, topB]
  all_goals simp only [dIx_t0, dIx_t1, dIx_l0, dIx_l1, toItems, itemsOf, runF, runL, startE, endF, endL, R.bind_ok, R.bind_exc, R.bind_stuck, gSeq, gIf, gSet, gOwn, gRet, gRetL, gRetO, gDrop, gTgt, gT, gsC, gsN, gN, gFor, gApp, gExt, gFrz, gNil, gExc, eVar, eC, e1, e2, eA, aNil, aCons, eTup, eLst, eCall, lCall, listR, eChain, tV, tAndD, tOrD, tNotD, eAnd, eOr, eNot, eIf, eL, lDisp, lList, lRep, oNone, oSome, eSl, iSeq, iRng1, iRng2, iZipD, iEnumD, iRevD, lListRange, lLc, eSorted, eSortSet, eLenSet, eBor, tBor, tYesD, noE, toB, dCmp, dSub, dNeg, dInt, dLen, dIs, dIsNot, List.map_cons, List.map_nil, List.length_cons, List.length_nil, Nat.reduceAdd, Nat.reduceSub, Nat.reduceLeDiff, List.replicate, List.cons_append, List.nil_append, List.append_nil, List.getElem?_cons_zero, List.getElem?_cons_succ, List.set_cons_zero, List.set_cons_succ, if_true, if_false, reduceIte, Bool.not_true, Bool.not_false, Bool.false_eq_true, reduceCtorEq, topB]
theorem F__law_is_plan_eq {m : Nat} : ∀ (k n : Nat) (t : D), k + 1 ≤ n → fineP m k t → ∀ (cs : List (List Int)), (∀ c ∈ cs, CaseOk m c) → cs.length ≤ 100 → F__law_is_plan n [.int m, .list (cs.map encC), t] = .ok (.bool (planB m k cs t))
  | 0, n, t, hn, ht, cs, hc, hl => by
    obtain ⟨n, rfl⟩ : ∃ n', n = n' + 1 := ⟨n - 1, by omega⟩
    exact ltop_eq hc hl t ht fun p hp => hp.elim
  | k + 1, n, t, hn, ht, cs, hc, hl => by
    obtain ⟨n, rfl⟩ : ∃ n', n = n' + 1 := ⟨n - 1, by omega⟩
    exact ltop_eq hc hl t ht fun p hp l _ hcl hll => F__law_is_plan_eq k n p (by omega) hp l hcl hll

end W

set_option Elab.async false
set_option linter.all false
set_option maxRecDepth 100000
set_option maxHeartbeats 1000000
namespace W
open PySem PL
theorem told_told : dEq (.str sTold) (.str sTold) = .ok (.bool true) := by rw [dEq_str okTold okTold, decide_eq_true rfl]
theorem weigh_told : dEq (.str sWeigh) (.str sTold) = .ok (.bool false) := by rw [dEq_str okWeigh okTold, decide_eq_false told_ne]
theorem told_weigh : dEq (.str sTold) (.str sWeigh) = .ok (.bool false) := by rw [dEq_str okTold okWeigh, decide_eq_false (Ne.symm told_ne)]
theorem weigh_weigh : dEq (.str sWeigh) (.str sWeigh) = .ok (.bool true) := by rw [dEq_str okWeigh okWeigh, decide_eq_true rfl]
/-! ### how long a plan is -/
def isNone : Pl → Bool
  | .none => true
  | _ => false
theorem valid_none {m : Nat} {cs : List (List Int)} {q : Pl} (h : ValidP m cs q) (hcs : cs ≠ []) : isNone q = false := by
  cases q with
  | none => exact absurd h hcs
  | _ => rfl
def hgts (ps : List Pl) : List Int := (ps.filter fun q => !isNone q).map fun q => (hgt q : Int)
theorem notNone (q : Pl) : dIsNot (encP q) .none = .ok (.bool (!isNone q)) := by cases q <;> rfl
theorem len_parts {R1 : List D → PL.R D} {s0 : PL.Slot noObj} : ∀ (ps : List Pl), (∀ q ∈ ps, isNone q = false → R1 [encP q] = .ok (.int (hgt q))) →
    eachR (lcStep (gN 1) (tV (e2 dIsNot (eVar 1) (eC .none))) (eCall 1 R1 (aCons (eVar 1) aNil)) [s0, .no]) (ps.map encP) = .ok ((hgts ps).map PyData.int)
  | [], _ => rfl
  | q :: ps, h => by
    rw [List.map_cons, eachR, len_parts ps fun p hp => h p (List.mem_cons_of_mem _ hp)]
    unfold lcStep hgts
    have e := notNone q
    unfold dIsNot at e
    simp only [dIx_t0, dIx_t1, dIx_l0, dIx_l1, toItems, itemsOf, runF, runL, startE, endF, endL, R.bind_ok, R.bind_exc, R.bind_stuck, gSeq, gIf, gSet, gOwn, gRet, gRetL, gRetO, gDrop, gTgt, gT, gsC, gsN, gN, gFor, gApp, gExt, gFrz, gNil, gExc, eVar, eC, e1, e2, eA, aNil, aCons, eTup, eLst, eCall, lCall, listR, eChain, tV, tAndD, tOrD, tNotD, eAnd, eOr, eNot, eIf, eL, lDisp, lList, lRep, oNone, oSome, eSl, iSeq, iRng1, iRng2, iZipD, iEnumD, iRevD, lListRange, lLc, eSorted, eSortSet, eLenSet, eBor, tBor, tYesD, noE, toB, dCmp, dSub, dNeg, dInt, dLen, dIs, dIsNot, List.map_cons, List.map_nil, List.length_cons, List.length_nil, Nat.reduceAdd, Nat.reduceSub, Nat.reduceLeDiff, List.replicate, List.cons_append, List.nil_append, List.append_nil, List.getElem?_cons_zero, List.getElem?_cons_succ, List.set_cons_zero, List.set_cons_succ, if_true, if_false, reduceIte, Bool.not_true, Bool.not_false, Bool.false_eq_true, reduceCtorEq, notNone q, e]
    cases hq : isNone q
    · simp only [dIx_t0, dIx_t1, dIx_l0, dIx_l1, toItems, itemsOf, runF, runL, startE, endF, endL, R.bind_ok, R.bind_exc, R.bind_stuck, gSeq, gIf, gSet, gOwn, gRet, gRetL, gRetO, gDrop, gTgt, gT, gsC, gsN, gN, gFor, gApp, gExt, gFrz, gNil, gExc, eVar, eC, e1, e2, eA, aNil, aCons, eTup, eLst, eCall, lCall, listR, eChain, tV, tAndD, tOrD, tNotD, eAnd, eOr, eNot, eIf, eL, lDisp, lList, lRep, oNone, oSome, eSl, iSeq, iRng1, iRng2, iZipD, iEnumD, iRevD, lListRange, lLc, eSorted, eSortSet, eLenSet, eBor, tBor, tYesD, noE, toB, dCmp, dSub, dNeg, dInt, dLen, dIs, dIsNot, List.map_cons, List.map_nil, List.length_cons, List.length_nil, Nat.reduceAdd, Nat.reduceSub, Nat.reduceLeDiff, List.replicate, List.cons_append, List.nil_append, List.append_nil, List.getElem?_cons_zero, List.getElem?_cons_succ, List.set_cons_zero, List.set_cons_succ, if_true, if_false, reduceIte, Bool.not_true, Bool.not_false, Bool.false_eq_true, reduceCtorEq, h q (List.mem_cons_self ..) hq, List.filter_cons, hq]
    · simp only [dIx_t0, dIx_t1, dIx_l0, dIx_l1, toItems, itemsOf, runF, runL, startE, endF, endL, R.bind_ok, R.bind_exc, R.bind_stuck, gSeq, gIf, gSet, gOwn, gRet, gRetL, gRetO, gDrop, gTgt, gT, gsC, gsN, gN, gFor, gApp, gExt, gFrz, gNil, gExc, eVar, eC, e1, e2, eA, aNil, aCons, eTup, eLst, eCall, lCall, listR, eChain, tV, tAndD, tOrD, tNotD, eAnd, eOr, eNot, eIf, eL, lDisp, lList, lRep, oNone, oSome, eSl, iSeq, iRng1, iRng2, iZipD, iEnumD, iRevD, lListRange, lLc, eSorted, eSortSet, eLenSet, eBor, tBor, tYesD, noE, toB, dCmp, dSub, dNeg, dInt, dLen, dIs, dIsNot, List.map_cons, List.map_nil, List.length_cons, List.length_nil, Nat.reduceAdd, Nat.reduceSub, Nat.reduceLeDiff, List.replicate, List.cons_append, List.nil_append, List.append_nil, List.getElem?_cons_zero, List.getElem?_cons_succ, List.set_cons_zero, List.set_cons_succ, if_true, if_false, reduceIte, Bool.not_true, Bool.not_false, Bool.false_eq_true, reduceCtorEq, List.filter_cons, hq]
theorem maxI_le : ∀ (r : List Int) (n b : Int), n ≤ b → (∀ x ∈ r, x ≤ b) → maxI n r ≤ b
  | [], n, b, h, _ => h
  | x :: r, n, b, h, hr => by
    unfold maxI
    refine maxI_le r _ b ?_ fun y hy => hr y (List.mem_cons_of_mem _ hy)
    have := hr x (List.mem_cons_self ..)
    split <;> omega
theorem maxI_ge : ∀ (r : List Int) (n : Int), n ≤ maxI n r ∧ ∀ x ∈ r, x ≤ maxI n r
  | [], n => ⟨Int.le_refl _, by simp⟩
  | x :: r, n => by
    unfold maxI
    obtain ⟨h1, h2⟩ := maxI_ge r (if n < x then x else n)
    have h3 : n ≤ (if n < x then x else n) ∧ x ≤ (if n < x then x else n) := by split <;> omega
    refine ⟨by omega, fun y hy => ?_⟩
    rcases List.mem_cons.mp hy with rfl | hy
    · omega
    · exact h2 y hy
theorem maxI_eq {n : Int} {r : List Int} {b : Int} (h1 : ∀ x ∈ n :: r, x ≤ b) (h2 : b ∈ n :: r) : maxI n r = b := by
  have a := maxI_le r n b (h1 n (List.mem_cons_self ..)) fun x hx => h1 x (List.mem_cons_of_mem _ hx)
  obtain ⟨g1, g2⟩ := maxI_ge r n
  rcases List.mem_cons.mp h2 with rfl | h2
  · omega
  · have := g2 b h2; omega
theorem dMax_eq {l : List Int} {b : Int} (h1 : ∀ x ∈ l, x ≤ b) (h2 : b ∈ l) : dMax [.list (l.map PyData.int)] = .ok (.int b) := by
  cases l with
  | nil => simp at h2
  | cons n r => simp only [dMax, intsOf_map, maxI_eq h1 h2]
theorem hgt_none {q : Pl} (h : isNone q = true) : hgt q = 0 := by cases q <;> first | rfl | cases h
theorem hgts_max {l e r : Pl} (h : isNone l = false ∨ isNone e = false ∨ isNone r = false) : dMax [.list ((hgts [l, e, r]).map PyData.int)] = .ok (.int (max (hgt l) (max (hgt e) (hgt r)) : Nat)) := by
  refine dMax_eq (fun x hx => ?_) ?_
  · obtain ⟨q, hq, rfl⟩ := List.mem_map.mp hx
    have hq := (List.mem_filter.mp hq).1
    simp only [List.mem_cons, List.not_mem_nil, or_false] at hq
    rcases hq with rfl | rfl | rfl <;> omega
  · -- the greatest is that of a part that is there
    have pick1 : ∀ q ∈ [l, e, r], isNone q = false → hgt q = max (hgt l) (max (hgt e) (hgt r)) → ((max (hgt l) (max (hgt e) (hgt r)) : Nat) : Int) ∈ hgts [l, e, r] := fun q hm hn e => by
      rw [← e]
      exact List.mem_map.mpr ⟨q, List.mem_filter.mpr ⟨hm, by rw [hn]; rfl⟩, rfl⟩
    have z : ∀ q, isNone q = false ∨ hgt q = 0 := fun q => by cases q <;> simp [isNone, hgt]
    have fall : max (hgt l) (max (hgt e) (hgt r)) = 0 → ((max (hgt l) (max (hgt e) (hgt r)) : Nat) : Int) ∈ hgts [l, e, r] := fun h0 => by
      rcases h with h | h | h
      · exact pick1 l (by simp) h (by omega)
      · exact pick1 e (by simp) h (by omega)
      · exact pick1 r (by simp) h (by omega)
    rcases (by omega : hgt l = max (hgt l) (max (hgt e) (hgt r)) ∨ hgt e = max (hgt l) (max (hgt e) (hgt r)) ∨ hgt r = max (hgt l) (max (hgt e) (hgt r))) with k | k | k
    · rcases z l with a | a
      · exact pick1 l (by simp) a k
      · exact fall (by omega)
    · rcases z e with a | a
      · exact pick1 e (by simp) a k
      · exact fall (by omega)
    · rcases z r with a | a
      · exact pick1 r (by simp) a k
      · exact fall (by omega)
theorem length_ok {m : Nat} {F : Nat → List D → PL.R D} (hF : ∀ n, F (n + 1) = runF 2 (g__law_length (F n))) : ∀ (q : Pl) (n : Nat) (cs : List (List Int)), cs ≠ [] → hgt q + 1 ≤ n → ValidP m cs q → F n [encP q] = .ok (.int (hgt q))
  | .none, n, cs, hcs, _, h => absurd h hcs
  | .told c, n, cs, _, hn, _ => by
    obtain ⟨n, rfl⟩ : ∃ n', n = n' + 1 := ⟨n - 1, by omega⟩
    rw [hF]
    unfold g__law_length
    simp only [dIx_t0, dIx_t1, dIx_l0, dIx_l1, toItems, itemsOf, runF, runL, startE, endF, endL, R.bind_ok, R.bind_exc, R.bind_stuck, gSeq, gIf, gSet, gOwn, gRet, gRetL, gRetO, gDrop, gTgt, gT, gsC, gsN, gN, gFor, gApp, gExt, gFrz, gNil, gExc, eVar, eC, e1, e2, eA, aNil, aCons, eTup, eLst, eCall, lCall, listR, eChain, tV, tAndD, tOrD, tNotD, eAnd, eOr, eNot, eIf, eL, lDisp, lList, lRep, oNone, oSome, eSl, iSeq, iRng1, iRng2, iZipD, iEnumD, iRevD, lListRange, lLc, eSorted, eSortSet, eLenSet, eBor, tBor, tYesD, noE, toB, dCmp, dSub, dNeg, dInt, dLen, dIs, dIsNot, List.map_cons, List.map_nil, List.length_cons, List.length_nil, Nat.reduceAdd, Nat.reduceSub, Nat.reduceLeDiff, List.replicate, List.cons_append, List.nil_append, List.append_nil, List.getElem?_cons_zero, List.getElem?_cons_succ, List.set_cons_zero, List.set_cons_succ, if_true, if_false, reduceIte, Bool.not_true, Bool.not_false, Bool.false_eq_true, reduceCtorEq, encP, told_told]
    rfl
  | .weigh w l e r, n, cs, hcs, hn, h => by
    obtain ⟨n, rfl⟩ : ∃ n', n = n' + 1 := ⟨n - 1, by omega⟩
    simp only [hgt] at hn
    obtain ⟨_, hw, hlw, v0, v1, v2⟩ := h
    have some1 : isNone l = false ∨ isNone e = false ∨ isNone r = false := by
      obtain ⟨c, hc⟩ := List.exists_mem_of_ne_nil cs hcs
      have hb := mem_by (w := w) hc
      rcases cm_val w c with h | h | h <;> rw [h] at hb
      · exact .inl (valid_none v0 (List.ne_nil_of_mem hb))
      · exact .inr (.inl (valid_none v1 (List.ne_nil_of_mem hb)))
      · exact .inr (.inr (valid_none v2 (List.ne_nil_of_mem hb)))
    have parts := len_parts (R1 := F n) (s0 := .val (encP (.weigh w l e r))) [l, e, r] fun q hq hn' => by
      simp only [List.mem_cons, List.not_mem_nil, or_false] at hq
      have ne : ∀ {d : Int} {q : Pl}, ValidP m (byW w d cs) q → isNone q = false → byW w d cs ≠ [] := fun {d q} v z e => by
        rw [e] at v
        cases q with
        | none => cases z
        | told c => cases (show [] = [c] from v)
        | weigh w l e r => exact (show ([] : List (List Int)) ≠ [] ∧ _ from v).1 rfl
      rcases hq with rfl | rfl | rfl
      · exact length_ok hF _ n _ (ne v0 hn') (by omega) v0
      · exact length_ok hF _ n _ (ne v1 hn') (by omega) v1
      · exact length_ok hF _ n _ (ne v2 hn') (by omega) v2
    have key : c__law_length_1 (F n) [.val (encP (.weigh w l e r)), .no] = .ok ((hgts [l, e, r]).map PyData.int) := by
      unfold c__law_length_1
      simp only [dIx_t0, dIx_t1, dIx_l0, dIx_l1, toItems, itemsOf, runF, runL, startE, endF, endL, R.bind_ok, R.bind_exc, R.bind_stuck, gSeq, gIf, gSet, gOwn, gRet, gRetL, gRetO, gDrop, gTgt, gT, gsC, gsN, gN, gFor, gApp, gExt, gFrz, gNil, gExc, eVar, eC, e1, e2, eA, aNil, aCons, eTup, eLst, eCall, lCall, listR, eChain, tV, tAndD, tOrD, tNotD, eAnd, eOr, eNot, eIf, eL, lDisp, lList, lRep, oNone, oSome, eSl, iSeq, iRng1, iRng2, iZipD, iEnumD, iRevD, lListRange, lLc, eSorted, eSortSet, eLenSet, eBor, tBor, tYesD, noE, toB, dCmp, dSub, dNeg, dInt, dLen, dIs, dIsNot, List.map_cons, List.map_nil, List.length_cons, List.length_nil, Nat.reduceAdd, Nat.reduceSub, Nat.reduceLeDiff, List.replicate, List.cons_append, List.nil_append, List.append_nil, List.getElem?_cons_zero, List.getElem?_cons_succ, List.set_cons_zero, List.set_cons_succ, if_true, if_false, reduceIte, Bool.not_true, Bool.not_false, Bool.false_eq_true, reduceCtorEq, encP, ix2]
      rw [if_pos ⟨by decide, rfl⟩]
      exact noE_of parts
    rw [hF]
    unfold g__law_length
    have e1' : (encP (.weigh w l e r)) = .tuple [.str sWeigh, encW w, .tuple [encP l, encP e, encP r]] := rfl
    rw [e1'] at key ⊢
    simp only [dIx_t0, dIx_t1, dIx_l0, dIx_l1, toItems, itemsOf, runF, runL, startE, endF, endL, R.bind_ok, R.bind_exc, R.bind_stuck, gSeq, gIf, gSet, gOwn, gRet, gRetL, gRetO, gDrop, gTgt, gT, gsC, gsN, gN, gFor, gApp, gExt, gFrz, gNil, gExc, eVar, eC, e1, e2, eA, aNil, aCons, eTup, eLst, eCall, lCall, listR, eChain, tV, tAndD, tOrD, tNotD, eAnd, eOr, eNot, eIf, eL, lDisp, lList, lRep, oNone, oSome, eSl, iSeq, iRng1, iRng2, iZipD, iEnumD, iRevD, lListRange, lLc, eSorted, eSortSet, eLenSet, eBor, tBor, tYesD, noE, toB, dCmp, dSub, dNeg, dInt, dLen, dIs, dIsNot, List.map_cons, List.map_nil, List.length_cons, List.length_nil, Nat.reduceAdd, Nat.reduceSub, Nat.reduceLeDiff, List.replicate, List.cons_append, List.nil_append, List.append_nil, List.getElem?_cons_zero, List.getElem?_cons_succ, List.set_cons_zero, List.set_cons_succ, if_true, if_false, reduceIte, Bool.not_true, Bool.not_false, Bool.false_eq_true, reduceCtorEq, weigh_told, key, hgts_max some1, dAdd]
    simp only [hgt]
    rfl
end W

set_option Elab.async false
set_option linter.all false
set_option maxRecDepth 100000
set_option maxHeartbeats 1000000
namespace W
open PySem PL
/-- a plan of some weighings alone -/
def PlIn (ws : List Wg) : Pl → Prop
  | .weigh w l e r => w ∈ ws ∧ PlIn ws l ∧ PlIn ws e ∧ PlIn ws r
  | _ => True
theorem plan_step {z : D} (hz : isSelf z = true) {Rp : List D → PL.R D} {s : D} {k : Nat} {at_ : D} {ds : List D} (hd : ds.length < 100) {p : List Int} {q : Pl} (h : (p = [] ∧ q = .none) ∨ (p ≠ [] ∧ Rp [z, tupI p, .int k] = .ok (encP q))) :
    g_m_plan_L1 Rp [.val z, .val s, .val (.int ((k + 1 : Nat) : Int)), .val at_, .own ds, .val (tupI p)] = .ok (.nx, [.val z, .val s, .val (.int ((k + 1 : Nat) : Int)), .val at_, .own (ds ++ [encP q]), .val (tupI p)]) := by
  have q3 : ((k + 1 : Nat) : Int) - 1 = (k : Int) := by omega
  have hd' : ds.length < 100000 := by omega
  unfold g_m_plan_L1
  rcases h with ⟨rfl, rfl⟩ | ⟨h1, h2⟩
  · simp only [dIx_t0, dIx_t1, dIx_l0, dIx_l1, toItems, itemsOf, runF, runL, startE, endF, endL, R.bind_ok, R.bind_exc, R.bind_stuck, gSeq, gIf, gSet, gOwn, gRet, gRetL, gRetO, gDrop, gTgt, gT, gsC, gsN, gN, gFor, gApp, gExt, gFrz, gNil, gExc, eVar, eC, e1, e2, eA, aNil, aCons, eTup, eLst, eCall, lCall, listR, eChain, tV, tAndD, tOrD, tNotD, eAnd, eOr, eNot, eIf, eL, lDisp, lList, lRep, oNone, oSome, eSl, iSeq, iRng1, iRng2, iZipD, iEnumD, iRevD, lListRange, lLc, eSorted, eSortSet, eLenSet, eBor, tBor, tYesD, noE, toB, dCmp, dSub, dNeg, dInt, dLen, dIs, dIsNot, List.map_cons, List.map_nil, List.length_cons, List.length_nil, Nat.reduceAdd, Nat.reduceSub, Nat.reduceLeDiff, List.replicate, List.cons_append, List.nil_append, List.append_nil, List.getElem?_cons_zero, List.getElem?_cons_succ, List.set_cons_zero, List.set_cons_succ, if_true, if_false, reduceIte, Bool.not_true, Bool.not_false, Bool.false_eq_true, reduceCtorEq, dEq_unit, decide_true, hd']
    rfl
  · simp only [dIx_t0, dIx_t1, dIx_l0, dIx_l1, toItems, itemsOf, runF, runL, startE, endF, endL, R.bind_ok, R.bind_exc, R.bind_stuck, gSeq, gIf, gSet, gOwn, gRet, gRetL, gRetO, gDrop, gTgt, gT, gsC, gsN, gN, gFor, gApp, gExt, gFrz, gNil, gExc, eVar, eC, e1, e2, eA, aNil, aCons, eTup, eLst, eCall, lCall, listR, eChain, tV, tAndD, tOrD, tNotD, eAnd, eOr, eNot, eIf, eL, lDisp, lList, lRep, oNone, oSome, eSl, iSeq, iRng1, iRng2, iZipD, iEnumD, iRevD, lListRange, lLc, eSorted, eSortSet, eLenSet, eBor, tBor, tYesD, noE, toB, dCmp, dSub, dNeg, dInt, dLen, dIs, dIsNot, List.map_cons, List.map_nil, List.length_cons, List.length_nil, Nat.reduceAdd, Nat.reduceSub, Nat.reduceLeDiff, List.replicate, List.cons_append, List.nil_append, List.append_nil, List.getElem?_cons_zero, List.getElem?_cons_succ, List.set_cons_zero, List.set_cons_succ, if_true, if_false, reduceIte, Bool.not_true, Bool.not_false, Bool.false_eq_true, reduceCtorEq, dEq_unit, decide_eq_false h1, eMeth, hz, q3, h2, hd']
section
variable {m n : Nat} {cs : List (List Int)} {ws : List Wg}
theorem F_plan_eq (S : Srch m n cs ws) : ∀ (k f : Nat) (s : List Int), k + 1 ≤ f → k < 20 → Pl12 n s → s ≠ [] → fitI (rowsW cs ws) k s = true →
    ∃ q, F_m_plan f [zS cs ws (rowsW cs ws), tupI s, .int k] = .ok (encP q) ∧ hgt q ≤ k ∧ ValidP m (pickC cs s) q ∧ fitI (rowsW cs ws) (hgt q) s = true ∧ PlIn ws q
  | k, f, s, hf, hk, hs, hne, hfit => by
    obtain ⟨f, rfl⟩ : ∃ f', f = f' + 1 := ⟨f - 1, by omega⟩
    have hrows := rows_len (ws := ws) S.len
    by_cases h2 : s.length < 2
    · obtain ⟨a, rfl⟩ : ∃ a, s = [a] := by
        match s, h2, hne with
        | [a], _, _ => exact ⟨a, rfl⟩
        | [], _, h => exact absurd rfl h
        | _ :: _ :: _, h, _ => simp at h; omega
      refine ⟨.told (cs.getD a.toNat []), ?_, Nat.zero_le _, rfl, fit_lt h2 _, trivial⟩
      have ha := hs.i a (by simp)
      have j1 : dIx (.list (cs.map encC)) (.int a) = .ok (encC (cs.getD a.toNat [])) := dIx_list ha.1 (by
        rw [List.getElem?_map, List.getD_eq_getElem?_getD, List.getElem?_eq_getElem (by rw [S.len]; omega)]
        rfl)
      have e0 : dIx (tupI [a]) (.int 0) = .ok (.int a) := dIx_t0 _ _
      have q1 : decide ((((0 : Nat) + 1 : Nat) : Int) = 1) = true := by decide
      show runF 6 (g_m_plan (F_m_plan f)) _ = _
      unfold g_m_plan
      unfold tupI at e0 ⊢
      simp only [dIx_t0, dIx_t1, dIx_l0, dIx_l1, toItems, itemsOf, runF, runL, startE, endF, endL, R.bind_ok, R.bind_exc, R.bind_stuck, gSeq, gIf, gSet, gOwn, gRet, gRetL, gRetO, gDrop, gTgt, gT, gsC, gsN, gN, gFor, gApp, gExt, gFrz, gNil, gExc, eVar, eC, e1, e2, eA, aNil, aCons, eTup, eLst, eCall, lCall, listR, eChain, tV, tAndD, tOrD, tNotD, eAnd, eOr, eNot, eIf, eL, lDisp, lList, lRep, oNone, oSome, eSl, iSeq, iRng1, iRng2, iZipD, iEnumD, iRevD, lListRange, lLc, eSorted, eSortSet, eLenSet, eBor, tBor, tYesD, noE, toB, dCmp, dSub, dNeg, dInt, dLen, dIs, dIsNot, List.map_cons, List.map_nil, List.length_cons, List.length_nil, Nat.reduceAdd, Nat.reduceSub, Nat.reduceLeDiff, List.replicate, List.cons_append, List.nil_append, List.append_nil, List.getElem?_cons_zero, List.getElem?_cons_succ, List.set_cons_zero, List.set_cons_succ, if_true, if_false, reduceIte, Bool.not_true, Bool.not_false, Bool.false_eq_true, reduceCtorEq, dEq_int, q1, zS, selfD, dFld, j1, encP]
    · cases k with
      | zero => exact absurd (fit_zero.mp hfit) h2
      | succ k =>
        obtain ⟨_, hany⟩ := (fit_succ h2).mp hfit
        have fe := F_first_of (cs := cs) (ws := ws) hs hrows (k := k) (m := 59) fun p hp => F_fits_eq hrows k 59 p (by omega) (by omega) hp
        obtain ⟨i, hi⟩ : ∃ i, firstP (tryI (fitI (rowsW cs ws) k) s) (rowsW cs ws) = some i := Option.isSome_iff_exists.mp (firstP_isSome.trans hany)
        obtain ⟨r, hr, ht⟩ := firstP_some hi
        rw [hi] at fe
        obtain ⟨w, hw, er⟩ : ∃ w, ws[i]? = some w ∧ rowOf cs w = r := by
          rw [rowsW, List.getElem?_map] at hr
          exact Option.map_eq_some_iff.mp hr
        subst er
        have hwm := List.mem_of_getElem? hw
        have ht' := ht
        unfold tryI at ht'
        rw [Bool.and_eq_true, List.all_eq_true] at ht'
        have hin : In cs.length s := by rw [S.len]; exact hs.i
        have part : ∀ d, idxI s (rowOf cs w) d ∈ partsI (rowOf cs w) s → ∃ q, ((idxI s (rowOf cs w) d = [] ∧ q = .none) ∨ (idxI s (rowOf cs w) d ≠ [] ∧ F_m_plan f [zS cs ws (rowsW cs ws), tupI (idxI s (rowOf cs w) d), .int k] = .ok (encP q))) ∧ hgt q ≤ k ∧ ValidP m (byW w d (pickC cs s)) q ∧ fitI (rowsW cs ws) (hgt q) (idxI s (rowOf cs w) d) = true ∧ PlIn ws q := fun d hd => by
          rw [by_pick hin w d]
          by_cases he : idxI s (rowOf cs w) d = []
          · refine ⟨.none, .inl ⟨he, rfl⟩, Nat.zero_le _, pick_nil.mpr he, fit_lt ?_ _, trivial⟩
            rw [he]
            decide
          · obtain ⟨q, j1, j2, j3, j4, j5⟩ := F_plan_eq S k f _ (by omega) (by omega) (hs.idx (rowOf cs w) d) he (ht'.2 _ hd)
            exact ⟨q, .inr ⟨he, j1⟩, j2, j3, j4, j5⟩
        obtain ⟨q0, p0, g0, v0, f0, n0⟩ := part (-1) (by simp [partsI])
        obtain ⟨q1, p1, g1, v1, f1, n1⟩ := part 0 (by simp [partsI])
        obtain ⟨q2, p2, g2, v2, f2, n2⟩ := part 1 (by simp [partsI])
        obtain ⟨iw, lw⟩ := S.w w hwm
        refine ⟨.weigh w q0 q1 q2, ?_, ?_, ⟨fun z => hne (pick_nil.mp z), iw, lw, v0, v1, v2⟩, ?_, ⟨hwm, n0, n1, n2⟩⟩
        · have rl : (rowOf cs w).length = n := by simpa [rowOf] using S.len
          have pe := F_parts_eq (rl ▸ hs.i) (by have := hs.le; omega) (zS cs ws (rowsW cs ws))
          have st0 := plan_step (z := zS cs ws (rowsW cs ws)) rfl (s := tupI s) (at_ := .int i) (ds := []) (by decide) p0
          have st1 := plan_step (z := zS cs ws (rowsW cs ws)) rfl (s := tupI s) (at_ := .int i) (ds := [encP q0]) (by simp) p1
          have st2 := plan_step (z := zS cs ws (rowsW cs ws)) rfl (s := tupI s) (at_ := .int i) (ds := [encP q0, encP q1]) (by simp) p2
          have ir : dIx (rowsD (rowsW cs ws)) (.int i) = .ok (lstI (rowOf cs w)) := dIx_list (by omega) (by rw [Int.toNat_natCast, List.getElem?_map, hr]; rfl)
          have iw' : dIx (.list (ws.map encW)) (.int i) = .ok (encW w) := dIx_list (by omega) (by rw [Int.toNat_natCast, List.getElem?_map, hw]; rfl)
          have self := self_zS cs ws (rowsW cs ws)
          have fl0 : dFld 0 (zS cs ws (rowsW cs ws)) = .ok (.list (cs.map encC)) := rfl
          have fl1 : dFld 1 (zS cs ws (rowsW cs ws)) = .ok (.list (ws.map encW)) := rfl
          have fl2 : dFld 2 (zS cs ws (rowsW cs ws)) = .ok (rowsD (rowsW cs ws)) := rfl
          have q1' : decide (((s.length : Nat) : Int) = 1) = false := decide_eq_false (by omega)
          have t1 : ∀ xs : List D, dTuple [.list xs] = .ok (.tuple xs) := fun _ => rfl
          have ps : (partsI (rowOf cs w) s).map tupI = [tupI (idxI s (rowOf cs w) (-1)), tupI (idxI s (rowOf cs w) 0), tupI (idxI s (rowOf cs w) 1)] := rfl
          rw [ps] at pe
          show runF 6 (g_m_plan (F_m_plan f)) _ = _
          unfold g_m_plan
          simp only [optI] at fe
          simp only [dIx_t0, dIx_t1, dIx_l0, dIx_l1, toItems, itemsOf, runF, runL, startE, endF, endL, R.bind_ok, R.bind_exc, R.bind_stuck, gSeq, gIf, gSet, gOwn, gRet, gRetL, gRetO, gDrop, gTgt, gT, gsC, gsN, gN, gFor, gApp, gExt, gFrz, gNil, gExc, eVar, eC, e1, e2, eA, aNil, aCons, eTup, eLst, eCall, lCall, listR, eChain, tV, tAndD, tOrD, tNotD, eAnd, eOr, eNot, eIf, eL, lDisp, lList, lRep, oNone, oSome, eSl, iSeq, iRng1, iRng2, iZipD, iEnumD, iRevD, lListRange, lLc, eSorted, eSortSet, eLenSet, eBor, tBor, tYesD, noE, toB, dCmp, dSub, dNeg, dInt, dLen, dIs, dIsNot, List.map_cons, List.map_nil, List.length_cons, List.length_nil, Nat.reduceAdd, Nat.reduceSub, Nat.reduceLeDiff, List.replicate, List.cons_append, List.nil_append, List.append_nil, List.getElem?_cons_zero, List.getElem?_cons_succ, List.set_cons_zero, List.set_cons_succ, if_true, if_false, reduceIte, Bool.not_true, Bool.not_false, Bool.false_eq_true, reduceCtorEq, List.length_map, dEq_int, q1', eMeth, self, fe, fl0, fl1, fl2, ir, iw', pe, loopF, st0, st1, st2, t1, encP]
        · simp only [hgt]
          omega
        · simp only [hgt]
          have bl := fit_le f0
          have b1 := fit_le f1
          have b2 := fit_le f2
          have le0 : hgt q0 ≤ max (hgt q0) (max (hgt q1) (hgt q2)) := by omega
          have le1 : hgt q1 ≤ max (hgt q0) (max (hgt q1) (hgt q2)) := by omega
          have le2 : hgt q2 ≤ max (hgt q0) (max (hgt q1) (hgt q2)) := by omega
          generalize max (hgt q0) (max (hgt q1) (hgt q2)) = M at le0 le1 le2
          rw [Nat.add_comm 1 M]
          have m0 := fit_mono le0 f0
          have m1 := fit_mono le1 f1
          have m2 := fit_mono le2 f2
          refine (fit_succ h2).mpr ⟨?_, List.any_eq_true.mpr ⟨rowOf cs w, List.mem_of_getElem? hr, ?_⟩⟩
          · have bl := fit_le m0
            have b1 := fit_le m1
            have b2 := fit_le m2
            have sum := by_len w (pickC cs s)
            rw [by_pick hin, by_pick hin, by_pick hin] at sum
            simp only [pickC, List.length_map] at sum
            have : 3 ^ (M + 1) = 3 * 3 ^ M := by rw [Nat.pow_succ]; omega
            omega
          · unfold tryI
            rw [Bool.and_eq_true, List.all_eq_true]
            refine ⟨ht'.1, fun p hp => ?_⟩
            simp only [partsI, List.mem_cons, List.not_mem_nil, or_false] at hp
            rcases hp with rfl | rfl | rfl
            · exact m0
            · exact m1
            · exact m2
end

end W

set_option Elab.async false
set_option linter.all false
set_option maxRecDepth 100000
set_option maxHeartbeats 1000000
namespace W
open PySem PL
abbrev sMany : Str := Str.ofString "many"
abbrev sEach : Str := Str.ofString "each"
theorem okMany : PyData.strOk sMany = true := by decide +kernel
theorem okEach : PyData.strOk sEach = true := by decide +kernel
theorem each_ne : sEach ≠ sMany := by decide +kernel
def valI : D → Int
  | .int i => i
  | _ => 0
def rowB (f : List (List Int) → D → Bool) (cs : List (List Int)) (w : Wg) (row : D) : Bool := match row with
  | .tuple [a, b] => amongB (-1) 1 a && f (byW w (valI a) cs) b
  | _ => false
def rowsB (f : List (List Int) → D → Bool) (cs : List (List Int)) : List Wg → List D → Bool
  | [], [] => true
  | w :: ws, r :: rs => rowB f cs w r && rowsB f cs ws rs
  | _, _ => false
def eachB (ws : List Wg) (cs : List (List Int)) (n : Nat) (xs : List D) (f : Nat → List (List Int) → D → Bool) : Bool := match xs, n with
  | [.tuple rows], n + 1 => rowsB (f n) cs ws rows
  | _, _ => false
def hTop (ws : List Wg) (cs : List (List Int)) (n : Nat) (t : D) (f : Nat → List (List Int) → D → Bool) : Bool := match t with
  | .tuple (.str s :: xs) => if s = sMany then xs.isEmpty && decide (3 ^ n < cs.length) else if s = sEach then eachB ws cs n xs f else false
  | _ => false
def holdB (ws : List Wg) : Nat → Nat → List (List Int) → D → Bool
  | 0, n, cs, t => hTop ws cs n t fun _ _ _ => false
  | k + 1, n, cs, t => hTop ws cs n t (holdB ws k)
/-- what may be looked at -/
def fineHT (t : D) (f : D → Prop) : Prop := tyD t ≠ none ∧ ∀ xs, t = .tuple xs → (∀ y ∈ xs, tyD y ≠ none) ∧ (∀ s r, xs = .str s :: r → PyData.strOk s = true) ∧ ∀ rows, xs = [.str sEach, .tuple rows] → rows.length ≤ 1000 ∧ ∀ row ∈ rows, tyD row ≠ none ∧ ∀ a b, row = .tuple [a, b] → tyD a ≠ none ∧ f b
def fineH : Nat → D → Prop
  | 0, t => fineHT t fun _ => False
  | k + 1, t => fineHT t (fineH k)
theorem rowsB_len {f : List (List Int) → D → Bool} {cs : List (List Int)} : ∀ {ws : List Wg} {rs : List D}, ws.length ≠ rs.length → rowsB f cs ws rs = false
  | [], [], h => absurd rfl h
  | [], _ :: _, _ => rfl
  | _ :: _, [], _ => rfl
  | w :: ws, r :: rs, h => by
    rw [rowsB, rowsB_len (ws := ws) (rs := rs) (by simpa using h), Bool.and_false]
theorem among_int {a : D} (h : amongB (-1) 1 a = true) : ∃ d : Int, a = .int d ∧ -1 ≤ d ∧ d ≤ 1 := by
  cases a with
  | int d =>
    simp only [amongB, Bool.and_eq_true, decide_eq_true_eq] at h
    exact ⟨d, rfl, h.1, h.2⟩
  | _ => simp [amongB] at h
/-- what is asked of the callee -/
def CallsH (m : Nat) (Rf : List (List Int) → PL.R D) (f : List (List Int) → D → Bool) (b : D) : Prop := ∀ l : List (List Int), (∀ c ∈ l, CaseOk m c) → l.length ≤ 100 → Rf l = .ok (.bool (f l b))
end W

set_option Elab.async false
set_option linter.all false
set_option maxRecDepth 100000
set_option maxHeartbeats 1000000
namespace W
open PySem PL
theorem lhold_step {m : Nat} {ws : List Wg} {cs : List (List Int)} (hc : ∀ c ∈ cs, CaseOk m c) (hl : cs.length ≤ 100) {k j : Nat} {f : List (List Int) → D → Bool} {Rf : List D → PL.R D} {rows : List D} {w : Wg} {row : D} (hw : WgOk m w) (hwj : ws[j]? = some w) (hrj : rows[j]? = some row) (ht : tyD row ≠ none)
    (hr : ∀ a b, row = .tuple [a, b] → tyD a ≠ none ∧ CallsH m (fun l => Rf [.list (ws.map encW), .list (l.map encC), .int k, b]) f b) (s5 s6 : PL.Slot noObj) :
    ∃ t5 t6, g__law_is_hold_L1 Rf [.val (.list (ws.map encW)), .val (.list (cs.map encC)), .val (.int ((k + 1 : Nat) : Int)), .val (.tuple [.str sEach, .tuple rows]), .val (.int j), s5, s6, .no] =
      if rowB f cs w row = true then .ok (.nx, [.val (.list (ws.map encW)), .val (.list (cs.map encC)), .val (.int ((k + 1 : Nat) : Int)), .val (.tuple [.str sEach, .tuple rows]), .val (.int j), t5, t6, .no])
      else .ok (.rt (.bool false), [.val (.list (ws.map encW)), .val (.list (cs.map encC)), .val (.int ((k + 1 : Nat) : Int)), .val (.tuple [.str sEach, .tuple rows]), .val (.int j), t5, t6, .no]) := by
  have i0 : dIx (.tuple rows) (.int j) = .ok row := dIx_tup (by omega) (by rw [Int.toNat_natCast]; exact hrj)
  have i1 : dIx (.list (ws.map encW)) (.int j) = .ok (encW w) := dIx_list (by omega) (by rw [Int.toNat_natCast, List.getElem?_map, hwj]; rfl)
  by_cases hp : ∃ a b, row = .tuple [a, b]
  · obtain ⟨a, b, rfl⟩ := hp
    obtain ⟨ha, hb⟩ := hr a b rfl
    have q1 : decide ((((0 : Nat) + 1 + 1 : Nat) : Int) = 2) = true := by decide
    have it := isi_tuple (.tuple [a, b]) ht
    by_cases hi : ∃ d : Int, a = .int d
    · obtain ⟨d, rfl⟩ := hi
      have lw : F__law_whole [.int d] = .ok (.bool true) := law_whole_int d
      by_cases hd : -1 ≤ d ∧ d ≤ 1
      · have key : c__law_is_hold_1 Rf [.val (.list (ws.map encW)), .val (.list (cs.map encC)), .val (.int ((k + 1 : Nat) : Int)), .val (.tuple [.str sEach, .tuple rows]), .val (.int j), .val (.tuple [.int d, b]), s6, .no] = .ok ((byW w d cs).map encC) := by
          unfold c__law_is_hold_1
          simp only [dIx_t0, dIx_t1, dIx_l0, dIx_l1, toItems, itemsOf, runF, runL, startE, endF, endL, R.bind_ok, R.bind_exc, R.bind_stuck, gSeq, gIf, gSet, gOwn, gRet, gRetL, gRetO, gDrop, gTgt, gT, gsC, gsN, gN, gFor, gApp, gExt, gFrz, gNil, gExc, eVar, eC, e1, e2, eA, aNil, aCons, eTup, eLst, eCall, lCall, listR, eChain, tV, tAndD, tOrD, tNotD, eAnd, eOr, eNot, eIf, eL, lDisp, lList, lRep, oNone, oSome, eSl, iSeq, iRng1, iRng2, iZipD, iEnumD, iRevD, lListRange, lLc, eSorted, eSortSet, eLenSet, eBor, tBor, tYesD, noE, toB, dCmp, dSub, dNeg, dInt, dLen, dIs, dIsNot, List.map_cons, List.map_nil, List.length_cons, List.length_nil, Nat.reduceAdd, Nat.reduceSub, Nat.reduceLeDiff, List.replicate, List.cons_append, List.nil_append, List.append_nil, List.getElem?_cons_zero, List.getElem?_cons_succ, List.set_cons_zero, List.set_cons_succ, if_true, if_false, reduceIte, Bool.not_true, Bool.not_false, Bool.false_eq_true, reduceCtorEq]
          rw [if_pos ⟨by rw [List.length_map]; omega, rfl⟩]
          refine noE_of (each_enc fun c h => ?_)
          unfold lcStep
          simp only [dIx_t0, dIx_t1, dIx_l0, dIx_l1, toItems, itemsOf, runF, runL, startE, endF, endL, R.bind_ok, R.bind_exc, R.bind_stuck, gSeq, gIf, gSet, gOwn, gRet, gRetL, gRetO, gDrop, gTgt, gT, gsC, gsN, gN, gFor, gApp, gExt, gFrz, gNil, gExc, eVar, eC, e1, e2, eA, aNil, aCons, eTup, eLst, eCall, lCall, listR, eChain, tV, tAndD, tOrD, tNotD, eAnd, eOr, eNot, eIf, eL, lDisp, lList, lRep, oNone, oSome, eSl, iSeq, iRng1, iRng2, iZipD, iEnumD, iRevD, lListRange, lLc, eSorted, eSortSet, eLenSet, eBor, tBor, tYesD, noE, toB, dCmp, dSub, dNeg, dInt, dLen, dIs, dIsNot, List.map_cons, List.map_nil, List.length_cons, List.length_nil, Nat.reduceAdd, Nat.reduceSub, Nat.reduceLeDiff, List.replicate, List.cons_append, List.nil_append, List.append_nil, List.getElem?_cons_zero, List.getElem?_cons_succ, List.set_cons_zero, List.set_cons_succ, if_true, if_false, reduceIte, Bool.not_true, Bool.not_false, Bool.false_eq_true, reduceCtorEq, wipeE, i1, lcame_eq hw (hc c h), dEq_int]
          by_cases h : cm w c = d
          · simp only [dIx_t0, dIx_t1, dIx_l0, dIx_l1, toItems, itemsOf, runF, runL, startE, endF, endL, R.bind_ok, R.bind_exc, R.bind_stuck, gSeq, gIf, gSet, gOwn, gRet, gRetL, gRetO, gDrop, gTgt, gT, gsC, gsN, gN, gFor, gApp, gExt, gFrz, gNil, gExc, eVar, eC, e1, e2, eA, aNil, aCons, eTup, eLst, eCall, lCall, listR, eChain, tV, tAndD, tOrD, tNotD, eAnd, eOr, eNot, eIf, eL, lDisp, lList, lRep, oNone, oSome, eSl, iSeq, iRng1, iRng2, iZipD, iEnumD, iRevD, lListRange, lLc, eSorted, eSortSet, eLenSet, eBor, tBor, tYesD, noE, toB, dCmp, dSub, dNeg, dInt, dLen, dIs, dIsNot, List.map_cons, List.map_nil, List.length_cons, List.length_nil, Nat.reduceAdd, Nat.reduceSub, Nat.reduceLeDiff, List.replicate, List.cons_append, List.nil_append, List.append_nil, List.getElem?_cons_zero, List.getElem?_cons_succ, List.set_cons_zero, List.set_cons_succ, if_true, if_false, reduceIte, Bool.not_true, Bool.not_false, Bool.false_eq_true, reduceCtorEq, decide_eq_true h]
          · simp only [dIx_t0, dIx_t1, dIx_l0, dIx_l1, toItems, itemsOf, runF, runL, startE, endF, endL, R.bind_ok, R.bind_exc, R.bind_stuck, gSeq, gIf, gSet, gOwn, gRet, gRetL, gRetO, gDrop, gTgt, gT, gsC, gsN, gN, gFor, gApp, gExt, gFrz, gNil, gExc, eVar, eC, e1, e2, eA, aNil, aCons, eTup, eLst, eCall, lCall, listR, eChain, tV, tAndD, tOrD, tNotD, eAnd, eOr, eNot, eIf, eL, lDisp, lList, lRep, oNone, oSome, eSl, iSeq, iRng1, iRng2, iZipD, iEnumD, iRevD, lListRange, lLc, eSorted, eSortSet, eLenSet, eBor, tBor, tYesD, noE, toB, dCmp, dSub, dNeg, dInt, dLen, dIs, dIsNot, List.map_cons, List.map_nil, List.length_cons, List.length_nil, Nat.reduceAdd, Nat.reduceSub, Nat.reduceLeDiff, List.replicate, List.cons_append, List.nil_append, List.append_nil, List.getElem?_cons_zero, List.getElem?_cons_succ, List.set_cons_zero, List.set_cons_succ, if_true, if_false, reduceIte, Bool.not_true, Bool.not_false, Bool.false_eq_true, reduceCtorEq, decide_eq_false h]
        have sub : ∀ c ∈ byW w d cs, CaseOk m c := fun c h => hc c (by_sub c h)
        have q3 : ((k + 1 : Nat) : Int) - 1 = (k : Int) := by omega
        have am : amongB (-1) 1 (.int d) = true := by simp [amongB, hd.1, hd.2]
        refine ⟨.val (.tuple [.int d, b]), .val (.list ((byW w d cs).map encC)), ?_⟩
        unfold g__law_is_hold_L1
        simp only [dIx_t0, dIx_t1, dIx_l0, dIx_l1, toItems, itemsOf, runF, runL, startE, endF, endL, R.bind_ok, R.bind_exc, R.bind_stuck, gSeq, gIf, gSet, gOwn, gRet, gRetL, gRetO, gDrop, gTgt, gT, gsC, gsN, gN, gFor, gApp, gExt, gFrz, gNil, gExc, eVar, eC, e1, e2, eA, aNil, aCons, eTup, eLst, eCall, lCall, listR, eChain, tV, tAndD, tOrD, tNotD, eAnd, eOr, eNot, eIf, eL, lDisp, lList, lRep, oNone, oSome, eSl, iSeq, iRng1, iRng2, iZipD, iEnumD, iRevD, lListRange, lLc, eSorted, eSortSet, eLenSet, eBor, tBor, tYesD, noE, toB, dCmp, dSub, dNeg, dInt, dLen, dIs, dIsNot, List.map_cons, List.map_nil, List.length_cons, List.length_nil, Nat.reduceAdd, Nat.reduceSub, Nat.reduceLeDiff, List.replicate, List.cons_append, List.nil_append, List.append_nil, List.getElem?_cons_zero, List.getElem?_cons_succ, List.set_cons_zero, List.set_cons_succ, if_true, if_false, reduceIte, Bool.not_true, Bool.not_false, Bool.false_eq_true, reduceCtorEq, i0, it, q1, dNe_int, lw, Int.reduceNeg, decide_eq_true hd.1, decide_eq_true hd.2, key, q3, hb (byW w d cs) sub (Nat.le_trans (by_le w d cs) hl), rowB, am, Bool.true_and, valI]
        cases f (byW w d cs) b <;> simp only [dIx_t0, dIx_t1, dIx_l0, dIx_l1, toItems, itemsOf, runF, runL, startE, endF, endL, R.bind_ok, R.bind_exc, R.bind_stuck, gSeq, gIf, gSet, gOwn, gRet, gRetL, gRetO, gDrop, gTgt, gT, gsC, gsN, gN, gFor, gApp, gExt, gFrz, gNil, gExc, eVar, eC, e1, e2, eA, aNil, aCons, eTup, eLst, eCall, lCall, listR, eChain, tV, tAndD, tOrD, tNotD, eAnd, eOr, eNot, eIf, eL, lDisp, lList, lRep, oNone, oSome, eSl, iSeq, iRng1, iRng2, iZipD, iEnumD, iRevD, lListRange, lLc, eSorted, eSortSet, eLenSet, eBor, tBor, tYesD, noE, toB, dCmp, dSub, dNeg, dInt, dLen, dIs, dIsNot, List.map_cons, List.map_nil, List.length_cons, List.length_nil, Nat.reduceAdd, Nat.reduceSub, Nat.reduceLeDiff, List.replicate, List.cons_append, List.nil_append, List.append_nil, List.getElem?_cons_zero, List.getElem?_cons_succ, List.set_cons_zero, List.set_cons_succ, if_true, if_false, reduceIte, Bool.not_true, Bool.not_false, Bool.false_eq_true, reduceCtorEq]
      · have am : amongB (-1) 1 (.int d) = false := by
          simp only [amongB, Bool.and_eq_false_iff, decide_eq_false_iff_not]
          omega
        refine ⟨.val (.tuple [.int d, b]), s6, ?_⟩
        unfold g__law_is_hold_L1
        by_cases h1 : -1 ≤ d
        · have h2 : ¬ d ≤ 1 := fun h2 => hd ⟨h1, h2⟩
          simp only [dIx_t0, dIx_t1, dIx_l0, dIx_l1, toItems, itemsOf, runF, runL, startE, endF, endL, R.bind_ok, R.bind_exc, R.bind_stuck, gSeq, gIf, gSet, gOwn, gRet, gRetL, gRetO, gDrop, gTgt, gT, gsC, gsN, gN, gFor, gApp, gExt, gFrz, gNil, gExc, eVar, eC, e1, e2, eA, aNil, aCons, eTup, eLst, eCall, lCall, listR, eChain, tV, tAndD, tOrD, tNotD, eAnd, eOr, eNot, eIf, eL, lDisp, lList, lRep, oNone, oSome, eSl, iSeq, iRng1, iRng2, iZipD, iEnumD, iRevD, lListRange, lLc, eSorted, eSortSet, eLenSet, eBor, tBor, tYesD, noE, toB, dCmp, dSub, dNeg, dInt, dLen, dIs, dIsNot, List.map_cons, List.map_nil, List.length_cons, List.length_nil, Nat.reduceAdd, Nat.reduceSub, Nat.reduceLeDiff, List.replicate, List.cons_append, List.nil_append, List.append_nil, List.getElem?_cons_zero, List.getElem?_cons_succ, List.set_cons_zero, List.set_cons_succ, if_true, if_false, reduceIte, Bool.not_true, Bool.not_false, Bool.false_eq_true, reduceCtorEq, i0, it, q1, dNe_int, lw, Int.reduceNeg, decide_eq_true h1, decide_eq_false h2, rowB, am, Bool.false_and]
        · simp only [dIx_t0, dIx_t1, dIx_l0, dIx_l1, toItems, itemsOf, runF, runL, startE, endF, endL, R.bind_ok, R.bind_exc, R.bind_stuck, gSeq, gIf, gSet, gOwn, gRet, gRetL, gRetO, gDrop, gTgt, gT, gsC, gsN, gN, gFor, gApp, gExt, gFrz, gNil, gExc, eVar, eC, e1, e2, eA, aNil, aCons, eTup, eLst, eCall, lCall, listR, eChain, tV, tAndD, tOrD, tNotD, eAnd, eOr, eNot, eIf, eL, lDisp, lList, lRep, oNone, oSome, eSl, iSeq, iRng1, iRng2, iZipD, iEnumD, iRevD, lListRange, lLc, eSorted, eSortSet, eLenSet, eBor, tBor, tYesD, noE, toB, dCmp, dSub, dNeg, dInt, dLen, dIs, dIsNot, List.map_cons, List.map_nil, List.length_cons, List.length_nil, Nat.reduceAdd, Nat.reduceSub, Nat.reduceLeDiff, List.replicate, List.cons_append, List.nil_append, List.append_nil, List.getElem?_cons_zero, List.getElem?_cons_succ, List.set_cons_zero, List.set_cons_succ, if_true, if_false, reduceIte, Bool.not_true, Bool.not_false, Bool.false_eq_true, reduceCtorEq, i0, it, q1, dNe_int, lw, Int.reduceNeg, decide_eq_false h1, rowB, am, Bool.false_and]
    · have lw : F__law_whole [a] = .ok (.bool false) := by
        rw [F__law_whole_eq _ ha]
        cases a with
        | int d => exact absurd ⟨d, rfl⟩ hi
        | _ => rfl
      have am : amongB (-1) 1 a = false := by
        cases a with
        | int d => exact absurd ⟨d, rfl⟩ hi
        | _ => rfl
      refine ⟨.val (.tuple [a, b]), s6, ?_⟩
      unfold g__law_is_hold_L1
      simp only [dIx_t0, dIx_t1, dIx_l0, dIx_l1, toItems, itemsOf, runF, runL, startE, endF, endL, R.bind_ok, R.bind_exc, R.bind_stuck, gSeq, gIf, gSet, gOwn, gRet, gRetL, gRetO, gDrop, gTgt, gT, gsC, gsN, gN, gFor, gApp, gExt, gFrz, gNil, gExc, eVar, eC, e1, e2, eA, aNil, aCons, eTup, eLst, eCall, lCall, listR, eChain, tV, tAndD, tOrD, tNotD, eAnd, eOr, eNot, eIf, eL, lDisp, lList, lRep, oNone, oSome, eSl, iSeq, iRng1, iRng2, iZipD, iEnumD, iRevD, lListRange, lLc, eSorted, eSortSet, eLenSet, eBor, tBor, tYesD, noE, toB, dCmp, dSub, dNeg, dInt, dLen, dIs, dIsNot, List.map_cons, List.map_nil, List.length_cons, List.length_nil, Nat.reduceAdd, Nat.reduceSub, Nat.reduceLeDiff, List.replicate, List.cons_append, List.nil_append, List.append_nil, List.getElem?_cons_zero, List.getElem?_cons_succ, List.set_cons_zero, List.set_cons_succ, if_true, if_false, reduceIte, Bool.not_true, Bool.not_false, Bool.false_eq_true, reduceCtorEq, i0, it, q1, dNe_int, lw, rowB, am, Bool.false_and]
  · have rb : rowB f cs w row = false := by
      unfold rowB
      split
      · rename_i a b
        exact absurd ⟨a, b, rfl⟩ hp
      · rfl
    refine ⟨.val row, s6, ?_⟩
    unfold g__law_is_hold_L1
    simp only [dIx_t0, dIx_t1, dIx_l0, dIx_l1, toItems, itemsOf, runF, runL, startE, endF, endL, R.bind_ok, R.bind_exc, R.bind_stuck, gSeq, gIf, gSet, gOwn, gRet, gRetL, gRetO, gDrop, gTgt, gT, gsC, gsN, gN, gFor, gApp, gExt, gFrz, gNil, gExc, eVar, eC, e1, e2, eA, aNil, aCons, eTup, eLst, eCall, lCall, listR, eChain, tV, tAndD, tOrD, tNotD, eAnd, eOr, eNot, eIf, eL, lDisp, lList, lRep, oNone, oSome, eSl, iSeq, iRng1, iRng2, iZipD, iEnumD, iRevD, lListRange, lLc, eSorted, eSortSet, eLenSet, eBor, tBor, tYesD, noE, toB, dCmp, dSub, dNeg, dInt, dLen, dIs, dIsNot, List.map_cons, List.map_nil, List.length_cons, List.length_nil, Nat.reduceAdd, Nat.reduceSub, Nat.reduceLeDiff, List.replicate, List.cons_append, List.nil_append, List.append_nil, List.getElem?_cons_zero, List.getElem?_cons_succ, List.set_cons_zero, List.set_cons_succ, if_true, if_false, reduceIte, Bool.not_true, Bool.not_false, Bool.false_eq_true, reduceCtorEq, i0, isi_tuple row ht]
    cases row
    case tuple xs =>
      match xs, hp with
      | [], _ =>
        have q1 : ¬ (((0 : Nat) : Int) = 2) := by decide
        simp only [dIx_t0, dIx_t1, dIx_l0, dIx_l1, toItems, itemsOf, runF, runL, startE, endF, endL, R.bind_ok, R.bind_exc, R.bind_stuck, gSeq, gIf, gSet, gOwn, gRet, gRetL, gRetO, gDrop, gTgt, gT, gsC, gsN, gN, gFor, gApp, gExt, gFrz, gNil, gExc, eVar, eC, e1, e2, eA, aNil, aCons, eTup, eLst, eCall, lCall, listR, eChain, tV, tAndD, tOrD, tNotD, eAnd, eOr, eNot, eIf, eL, lDisp, lList, lRep, oNone, oSome, eSl, iSeq, iRng1, iRng2, iZipD, iEnumD, iRevD, lListRange, lLc, eSorted, eSortSet, eLenSet, eBor, tBor, tYesD, noE, toB, dCmp, dSub, dNeg, dInt, dLen, dIs, dIsNot, List.map_cons, List.map_nil, List.length_cons, List.length_nil, Nat.reduceAdd, Nat.reduceSub, Nat.reduceLeDiff, List.replicate, List.cons_append, List.nil_append, List.append_nil, List.getElem?_cons_zero, List.getElem?_cons_succ, List.set_cons_zero, List.set_cons_succ, if_true, if_false, reduceIte, Bool.not_true, Bool.not_false, Bool.false_eq_true, reduceCtorEq, dNe_int, decide_eq_false q1, rb]
      | [_], _ =>
        have q1 : ¬ ((((0 : Nat) + 1 : Nat) : Int) = 2) := by decide
        simp only [dIx_t0, dIx_t1, dIx_l0, dIx_l1, toItems, itemsOf, runF, runL, startE, endF, endL, R.bind_ok, R.bind_exc, R.bind_stuck, gSeq, gIf, gSet, gOwn, gRet, gRetL, gRetO, gDrop, gTgt, gT, gsC, gsN, gN, gFor, gApp, gExt, gFrz, gNil, gExc, eVar, eC, e1, e2, eA, aNil, aCons, eTup, eLst, eCall, lCall, listR, eChain, tV, tAndD, tOrD, tNotD, eAnd, eOr, eNot, eIf, eL, lDisp, lList, lRep, oNone, oSome, eSl, iSeq, iRng1, iRng2, iZipD, iEnumD, iRevD, lListRange, lLc, eSorted, eSortSet, eLenSet, eBor, tBor, tYesD, noE, toB, dCmp, dSub, dNeg, dInt, dLen, dIs, dIsNot, List.map_cons, List.map_nil, List.length_cons, List.length_nil, Nat.reduceAdd, Nat.reduceSub, Nat.reduceLeDiff, List.replicate, List.cons_append, List.nil_append, List.append_nil, List.getElem?_cons_zero, List.getElem?_cons_succ, List.set_cons_zero, List.set_cons_succ, if_true, if_false, reduceIte, Bool.not_true, Bool.not_false, Bool.false_eq_true, reduceCtorEq, dNe_int, decide_eq_false q1, rb]
      | [a, b], hp => exact absurd ⟨a, b, rfl⟩ hp
      | _ :: _ :: _ :: r, _ =>
        have q1 : ¬ (((r.length + 1 + 1 + 1 : Nat) : Int) = 2) := by omega
        simp only [dIx_t0, dIx_t1, dIx_l0, dIx_l1, toItems, itemsOf, runF, runL, startE, endF, endL, R.bind_ok, R.bind_exc, R.bind_stuck, gSeq, gIf, gSet, gOwn, gRet, gRetL, gRetO, gDrop, gTgt, gT, gsC, gsN, gN, gFor, gApp, gExt, gFrz, gNil, gExc, eVar, eC, e1, e2, eA, aNil, aCons, eTup, eLst, eCall, lCall, listR, eChain, tV, tAndD, tOrD, tNotD, eAnd, eOr, eNot, eIf, eL, lDisp, lList, lRep, oNone, oSome, eSl, iSeq, iRng1, iRng2, iZipD, iEnumD, iRevD, lListRange, lLc, eSorted, eSortSet, eLenSet, eBor, tBor, tYesD, noE, toB, dCmp, dSub, dNeg, dInt, dLen, dIs, dIsNot, List.map_cons, List.map_nil, List.length_cons, List.length_nil, Nat.reduceAdd, Nat.reduceSub, Nat.reduceLeDiff, List.replicate, List.cons_append, List.nil_append, List.append_nil, List.getElem?_cons_zero, List.getElem?_cons_succ, List.set_cons_zero, List.set_cons_succ, if_true, if_false, reduceIte, Bool.not_true, Bool.not_false, Bool.false_eq_true, reduceCtorEq, dNe_int, decide_eq_false q1, rb]
    all_goals simp only [dIx_t0, dIx_t1, dIx_l0, dIx_l1, toItems, itemsOf, runF, runL, startE, endF, endL, R.bind_ok, R.bind_exc, R.bind_stuck, gSeq, gIf, gSet, gOwn, gRet, gRetL, gRetO, gDrop, gTgt, gT, gsC, gsN, gN, gFor, gApp, gExt, gFrz, gNil, gExc, eVar, eC, e1, e2, eA, aNil, aCons, eTup, eLst, eCall, lCall, listR, eChain, tV, tAndD, tOrD, tNotD, eAnd, eOr, eNot, eIf, eL, lDisp, lList, lRep, oNone, oSome, eSl, iSeq, iRng1, iRng2, iZipD, iEnumD, iRevD, lListRange, lLc, eSorted, eSortSet, eLenSet, eBor, tBor, tYesD, noE, toB, dCmp, dSub, dNeg, dInt, dLen, dIs, dIsNot, List.map_cons, List.map_nil, List.length_cons, List.length_nil, Nat.reduceAdd, Nat.reduceSub, Nat.reduceLeDiff, List.replicate, List.cons_append, List.nil_append, List.append_nil, List.getElem?_cons_zero, List.getElem?_cons_succ, List.set_cons_zero, List.set_cons_succ, if_true, if_false, reduceIte, Bool.not_true, Bool.not_false, Bool.false_eq_true, reduceCtorEq, rb]
theorem lhold_loop {m : Nat} {ws : List Wg} (hws : ∀ w ∈ ws, WgOk m w) {cs : List (List Int)} (hc : ∀ c ∈ cs, CaseOk m c) (hl : cs.length ≤ 100) {k : Nat} {f : List (List Int) → D → Bool} {Rf : List D → PL.R D} {rows : List D}
    (hr : ∀ row ∈ rows, tyD row ≠ none ∧ ∀ a b, row = .tuple [a, b] → tyD a ≠ none ∧ CallsH m (fun l => Rf [.list (ws.map encW), .list (l.map encC), .int k, b]) f b) : ∀ (ws' : List Wg) (rows' : List D) (j : Nat) (s4 s5 s6 : PL.Slot noObj), ws.drop j = ws' → rows.drop j = rows' → ws'.length = rows'.length →
    ∃ ρ', loopF (gN 4) (g__law_is_hold_L1 Rf) ((List.range' j ws'.length).map fun i : Nat => PyData.int i) [.val (.list (ws.map encW)), .val (.list (cs.map encC)), .val (.int ((k + 1 : Nat) : Int)), .val (.tuple [.str sEach, .tuple rows]), s4, s5, s6, .no] =
      if rowsB f cs ws' rows' = true then .ok (.nx, ρ') else .ok (.rt (.bool false), ρ')
  | [], [], j, s4, s5, s6, _, _, _ => ⟨_, by
    simp only [List.length_nil, List.range'_zero, List.map_nil, loopF, rowsB, if_true]
    rfl⟩
  | [], _ :: _, _, _, _, _, _, _, h => by simp at h
  | _ :: _, [], _, _, _, _, _, _, h => by simp at h
  | w :: ws', row :: rows', j, s4, s5, s6, h1, h2, h3 => by
    have hwj : ws[j]? = some w := by
      have := congrArg (·[0]?) h1
      simpa [List.getElem?_drop] using this
    have hrj : rows[j]? = some row := by
      have := congrArg (·[0]?) h2
      simpa [List.getElem?_drop] using this
    have hr' := hr row (List.mem_of_getElem? hrj)
    obtain ⟨t5, t6, es⟩ := lhold_step hc hl (hws w (List.mem_of_getElem? hwj)) hwj hrj hr'.1 hr'.2 (f := f) (k := k) s5 s6
    have d1 : ws.drop (j + 1) = ws' := by rw [← List.drop_drop, h1]; rfl
    have d2 : rows.drop (j + 1) = rows' := by rw [← List.drop_drop, h2]; rfl
    obtain ⟨ρ', el⟩ := lhold_loop hws hc hl hr ws' rows' (j + 1) (.val (.int j)) t5 t6 d1 d2 (by simpa using h3)
    rw [List.length_cons, List.range'_succ, List.map_cons]
    by_cases hb : rowB f cs w row = true
    · refine ⟨ρ', ?_⟩
      rw [if_pos hb] at es
      simp only [dIx_t0, dIx_t1, dIx_l0, dIx_l1, toItems, itemsOf, runF, runL, startE, endF, endL, R.bind_ok, R.bind_exc, R.bind_stuck, gSeq, gIf, gSet, gOwn, gRet, gRetL, gRetO, gDrop, gTgt, gT, gsC, gsN, gN, gFor, gApp, gExt, gFrz, gNil, gExc, eVar, eC, e1, e2, eA, aNil, aCons, eTup, eLst, eCall, lCall, listR, eChain, tV, tAndD, tOrD, tNotD, eAnd, eOr, eNot, eIf, eL, lDisp, lList, lRep, oNone, oSome, eSl, iSeq, iRng1, iRng2, iZipD, iEnumD, iRevD, lListRange, lLc, eSorted, eSortSet, eLenSet, eBor, tBor, tYesD, noE, toB, dCmp, dSub, dNeg, dInt, dLen, dIs, dIsNot, List.map_cons, List.map_nil, List.length_cons, List.length_nil, Nat.reduceAdd, Nat.reduceSub, Nat.reduceLeDiff, List.replicate, List.cons_append, List.nil_append, List.append_nil, List.getElem?_cons_zero, List.getElem?_cons_succ, List.set_cons_zero, List.set_cons_succ, if_true, if_false, reduceIte, Bool.not_true, Bool.not_false, Bool.false_eq_true, reduceCtorEq, loopF, es, el, rowsB, hb, Bool.true_and]
    · refine ⟨[.val (.list (ws.map encW)), .val (.list (cs.map encC)), .val (.int ((k + 1 : Nat) : Int)), .val (.tuple [.str sEach, .tuple rows]), .val (.int j), t5, t6, .no], ?_⟩
      rw [if_neg hb] at es
      have hb' : rowB f cs w row = false := by simpa using hb
      simp only [dIx_t0, dIx_t1, dIx_l0, dIx_l1, toItems, itemsOf, runF, runL, startE, endF, endL, R.bind_ok, R.bind_exc, R.bind_stuck, gSeq, gIf, gSet, gOwn, gRet, gRetL, gRetO, gDrop, gTgt, gT, gsC, gsN, gN, gFor, gApp, gExt, gFrz, gNil, gExc, eVar, eC, e1, e2, eA, aNil, aCons, eTup, eLst, eCall, lCall, listR, eChain, tV, tAndD, tOrD, tNotD, eAnd, eOr, eNot, eIf, eL, lDisp, lList, lRep, oNone, oSome, eSl, iSeq, iRng1, iRng2, iZipD, iEnumD, iRevD, lListRange, lLc, eSorted, eSortSet, eLenSet, eBor, tBor, tYesD, noE, toB, dCmp, dSub, dNeg, dInt, dLen, dIs, dIsNot, List.map_cons, List.map_nil, List.length_cons, List.length_nil, Nat.reduceAdd, Nat.reduceSub, Nat.reduceLeDiff, List.replicate, List.cons_append, List.nil_append, List.append_nil, List.getElem?_cons_zero, List.getElem?_cons_succ, List.set_cons_zero, List.set_cons_succ, if_true, if_false, reduceIte, Bool.not_true, Bool.not_false, Bool.false_eq_true, reduceCtorEq, loopF, es, rowsB, hb', Bool.false_and]
theorem lhold_top {m : Nat} {ws : List Wg} (hws : ∀ w ∈ ws, WgOk m w) (hwl : ws.length ≤ 1000) {cs : List (List Int)} (hc : ∀ c ∈ cs, CaseOk m c) (hl : cs.length ≤ 100) {n k : Nat} (hk : k ≤ 1000) {f : Nat → List (List Int) → D → Bool} {g : D → Prop} (t : D) (ht : fineHT t g)
    (hg : ∀ b k', g b → k = k' + 1 → CallsH m (fun l => F__law_is_hold n [.list (ws.map encW), .list (l.map encC), .int k', b]) (f k') b) :
    F__law_is_hold (n + 1) [.list (ws.map encW), .list (cs.map encC), .int k, t] = .ok (.bool (hTop ws cs k t f)) := by
  show runF 8 (g__law_is_hold (F__law_is_hold n)) _ = _
  unfold g__law_is_hold
  rw [law_threes]
  simp only [dIx_t0, dIx_t1, dIx_l0, dIx_l1, toItems, itemsOf, runF, runL, startE, endF, endL, R.bind_ok, R.bind_exc, R.bind_stuck, gSeq, gIf, gSet, gOwn, gRet, gRetL, gRetO, gDrop, gTgt, gT, gsC, gsN, gN, gFor, gApp, gExt, gFrz, gNil, gExc, eVar, eC, e1, e2, eA, aNil, aCons, eTup, eLst, eCall, lCall, listR, eChain, tV, tAndD, tOrD, tNotD, eAnd, eOr, eNot, eIf, eL, lDisp, lList, lRep, oNone, oSome, eSl, iSeq, iRng1, iRng2, iZipD, iEnumD, iRevD, lListRange, lLc, eSorted, eSortSet, eLenSet, eBor, tBor, tYesD, noE, toB, dCmp, dSub, dNeg, dInt, dLen, dIs, dIsNot, List.map_cons, List.map_nil, List.length_cons, List.length_nil, Nat.reduceAdd, Nat.reduceSub, Nat.reduceLeDiff, List.replicate, List.cons_append, List.nil_append, List.append_nil, List.getElem?_cons_zero, List.getElem?_cons_succ, List.set_cons_zero, List.set_cons_succ, if_true, if_false, reduceIte, Bool.not_true, Bool.not_false, Bool.false_eq_true, reduceCtorEq, isi_tuple t ht.1]
  cases t
  case tuple xs =>
    obtain ⟨hty, hs, hrs⟩ := ht.2 xs rfl
    match xs, hty, hs, hrs with
    | [], _, _, _ => simp only [dIx_t0, dIx_t1, dIx_l0, dIx_l1, toItems, itemsOf, runF, runL, startE, endF, endL, R.bind_ok, R.bind_exc, R.bind_stuck, gSeq, gIf, gSet, gOwn, gRet, gRetL, gRetO, gDrop, gTgt, gT, gsC, gsN, gN, gFor, gApp, gExt, gFrz, gNil, gExc, eVar, eC, e1, e2, eA, aNil, aCons, eTup, eLst, eCall, lCall, listR, eChain, tV, tAndD, tOrD, tNotD, eAnd, eOr, eNot, eIf, eL, lDisp, lList, lRep, oNone, oSome, eSl, iSeq, iRng1, iRng2, iZipD, iEnumD, iRevD, lListRange, lLc, eSorted, eSortSet, eLenSet, eBor, tBor, tYesD, noE, toB, dCmp, dSub, dNeg, dInt, dLen, dIs, dIsNot, List.map_cons, List.map_nil, List.length_cons, List.length_nil, Nat.reduceAdd, Nat.reduceSub, Nat.reduceLeDiff, List.replicate, List.cons_append, List.nil_append, List.append_nil, List.getElem?_cons_zero, List.getElem?_cons_succ, List.set_cons_zero, List.set_cons_succ, if_true, if_false, reduceIte, Bool.not_true, Bool.not_false, Bool.false_eq_true, reduceCtorEq, dEqN, List.isEmpty_nil, hTop]
    | y :: rest, hty, hs, hrs =>
      simp only [dIx_t0, dIx_t1, dIx_l0, dIx_l1, toItems, itemsOf, runF, runL, startE, endF, endL, R.bind_ok, R.bind_exc, R.bind_stuck, gSeq, gIf, gSet, gOwn, gRet, gRetL, gRetO, gDrop, gTgt, gT, gsC, gsN, gN, gFor, gApp, gExt, gFrz, gNil, gExc, eVar, eC, e1, e2, eA, aNil, aCons, eTup, eLst, eCall, lCall, listR, eChain, tV, tAndD, tOrD, tNotD, eAnd, eOr, eNot, eIf, eL, lDisp, lList, lRep, oNone, oSome, eSl, iSeq, iRng1, iRng2, iZipD, iEnumD, iRevD, lListRange, lLc, eSorted, eSortSet, eLenSet, eBor, tBor, tYesD, noE, toB, dCmp, dSub, dNeg, dInt, dLen, dIs, dIsNot, List.map_cons, List.map_nil, List.length_cons, List.length_nil, Nat.reduceAdd, Nat.reduceSub, Nat.reduceLeDiff, List.replicate, List.cons_append, List.nil_append, List.append_nil, List.getElem?_cons_zero, List.getElem?_cons_succ, List.set_cons_zero, List.set_cons_succ, if_true, if_false, reduceIte, Bool.not_true, Bool.not_false, Bool.false_eq_true, reduceCtorEq, dEqN, List.isEmpty_cons, isi_str y (hty y (by simp))]
      cases y
      case str s =>
        have os := hs s rest rfl
        simp only [dIx_t0, dIx_t1, dIx_l0, dIx_l1, toItems, itemsOf, runF, runL, startE, endF, endL, R.bind_ok, R.bind_exc, R.bind_stuck, gSeq, gIf, gSet, gOwn, gRet, gRetL, gRetO, gDrop, gTgt, gT, gsC, gsN, gN, gFor, gApp, gExt, gFrz, gNil, gExc, eVar, eC, e1, e2, eA, aNil, aCons, eTup, eLst, eCall, lCall, listR, eChain, tV, tAndD, tOrD, tNotD, eAnd, eOr, eNot, eIf, eL, lDisp, lList, lRep, oNone, oSome, eSl, iSeq, iRng1, iRng2, iZipD, iEnumD, iRevD, lListRange, lLc, eSorted, eSortSet, eLenSet, eBor, tBor, tYesD, noE, toB, dCmp, dSub, dNeg, dInt, dLen, dIs, dIsNot, List.map_cons, List.map_nil, List.length_cons, List.length_nil, Nat.reduceAdd, Nat.reduceSub, Nat.reduceLeDiff, List.replicate, List.cons_append, List.nil_append, List.append_nil, List.getElem?_cons_zero, List.getElem?_cons_succ, List.set_cons_zero, List.set_cons_succ, if_true, if_false, reduceIte, Bool.not_true, Bool.not_false, Bool.false_eq_true, reduceCtorEq, dEq_str os okMany]
        by_cases h1 : s = sMany
        · subst h1
          simp only [dIx_t0, dIx_t1, dIx_l0, dIx_l1, toItems, itemsOf, runF, runL, startE, endF, endL, R.bind_ok, R.bind_exc, R.bind_stuck, gSeq, gIf, gSet, gOwn, gRet, gRetL, gRetO, gDrop, gTgt, gT, gsC, gsN, gN, gFor, gApp, gExt, gFrz, gNil, gExc, eVar, eC, e1, e2, eA, aNil, aCons, eTup, eLst, eCall, lCall, listR, eChain, tV, tAndD, tOrD, tNotD, eAnd, eOr, eNot, eIf, eL, lDisp, lList, lRep, oNone, oSome, eSl, iSeq, iRng1, iRng2, iZipD, iEnumD, iRevD, lListRange, lLc, eSorted, eSortSet, eLenSet, eBor, tBor, tYesD, noE, toB, dCmp, dSub, dNeg, dInt, dLen, dIs, dIsNot, List.map_cons, List.map_nil, List.length_cons, List.length_nil, Nat.reduceAdd, Nat.reduceSub, Nat.reduceLeDiff, List.replicate, List.cons_append, List.nil_append, List.append_nil, List.getElem?_cons_zero, List.getElem?_cons_succ, List.set_cons_zero, List.set_cons_succ, if_true, if_false, reduceIte, Bool.not_true, Bool.not_false, Bool.false_eq_true, reduceCtorEq, decide_true, dEq_int, hTop]
          cases rest with
          | nil => simp only [dIx_t0, dIx_t1, dIx_l0, dIx_l1, toItems, itemsOf, runF, runL, startE, endF, endL, R.bind_ok, R.bind_exc, R.bind_stuck, gSeq, gIf, gSet, gOwn, gRet, gRetL, gRetO, gDrop, gTgt, gT, gsC, gsN, gN, gFor, gApp, gExt, gFrz, gNil, gExc, eVar, eC, e1, e2, eA, aNil, aCons, eTup, eLst, eCall, lCall, listR, eChain, tV, tAndD, tOrD, tNotD, eAnd, eOr, eNot, eIf, eL, lDisp, lList, lRep, oNone, oSome, eSl, iSeq, iRng1, iRng2, iZipD, iEnumD, iRevD, lListRange, lLc, eSorted, eSortSet, eLenSet, eBor, tBor, tYesD, noE, toB, dCmp, dSub, dNeg, dInt, dLen, dIs, dIsNot, List.map_cons, List.map_nil, List.length_cons, List.length_nil, Nat.reduceAdd, Nat.reduceSub, Nat.reduceLeDiff, List.replicate, List.cons_append, List.nil_append, List.append_nil, List.getElem?_cons_zero, List.getElem?_cons_succ, List.set_cons_zero, List.set_cons_succ, if_true, if_false, reduceIte, Bool.not_true, Bool.not_false, Bool.false_eq_true, reduceCtorEq, F_threes_eq k hk, dGt_three, List.length_map, List.isEmpty_nil, Bool.true_and, Int.cast_ofNat_Int, decide_true]
          | cons z r =>
            have e : ¬ (((r.length + 1 + 1 : Nat) : Int) = 1) := by omega
            simp only [dIx_t0, dIx_t1, dIx_l0, dIx_l1, toItems, itemsOf, runF, runL, startE, endF, endL, R.bind_ok, R.bind_exc, R.bind_stuck, gSeq, gIf, gSet, gOwn, gRet, gRetL, gRetO, gDrop, gTgt, gT, gsC, gsN, gN, gFor, gApp, gExt, gFrz, gNil, gExc, eVar, eC, e1, e2, eA, aNil, aCons, eTup, eLst, eCall, lCall, listR, eChain, tV, tAndD, tOrD, tNotD, eAnd, eOr, eNot, eIf, eL, lDisp, lList, lRep, oNone, oSome, eSl, iSeq, iRng1, iRng2, iZipD, iEnumD, iRevD, lListRange, lLc, eSorted, eSortSet, eLenSet, eBor, tBor, tYesD, noE, toB, dCmp, dSub, dNeg, dInt, dLen, dIs, dIsNot, List.map_cons, List.map_nil, List.length_cons, List.length_nil, Nat.reduceAdd, Nat.reduceSub, Nat.reduceLeDiff, List.replicate, List.cons_append, List.nil_append, List.append_nil, List.getElem?_cons_zero, List.getElem?_cons_succ, List.set_cons_zero, List.set_cons_succ, if_true, if_false, reduceIte, Bool.not_true, Bool.not_false, Bool.false_eq_true, reduceCtorEq, decide_eq_false e, List.isEmpty_cons, Bool.false_and]
        · simp only [dIx_t0, dIx_t1, dIx_l0, dIx_l1, toItems, itemsOf, runF, runL, startE, endF, endL, R.bind_ok, R.bind_exc, R.bind_stuck, gSeq, gIf, gSet, gOwn, gRet, gRetL, gRetO, gDrop, gTgt, gT, gsC, gsN, gN, gFor, gApp, gExt, gFrz, gNil, gExc, eVar, eC, e1, e2, eA, aNil, aCons, eTup, eLst, eCall, lCall, listR, eChain, tV, tAndD, tOrD, tNotD, eAnd, eOr, eNot, eIf, eL, lDisp, lList, lRep, oNone, oSome, eSl, iSeq, iRng1, iRng2, iZipD, iEnumD, iRevD, lListRange, lLc, eSorted, eSortSet, eLenSet, eBor, tBor, tYesD, noE, toB, dCmp, dSub, dNeg, dInt, dLen, dIs, dIsNot, List.map_cons, List.map_nil, List.length_cons, List.length_nil, Nat.reduceAdd, Nat.reduceSub, Nat.reduceLeDiff, List.replicate, List.cons_append, List.nil_append, List.append_nil, List.getElem?_cons_zero, List.getElem?_cons_succ, List.set_cons_zero, List.set_cons_succ, if_true, if_false, reduceIte, Bool.not_true, Bool.not_false, Bool.false_eq_true, reduceCtorEq, decide_eq_false h1, dNe_str os okEach, hTop, if_neg h1]
          by_cases h2 : s = sEach
          · subst h2
            simp only [dIx_t0, dIx_t1, dIx_l0, dIx_l1, toItems, itemsOf, runF, runL, startE, endF, endL, R.bind_ok, R.bind_exc, R.bind_stuck, gSeq, gIf, gSet, gOwn, gRet, gRetL, gRetO, gDrop, gTgt, gT, gsC, gsN, gN, gFor, gApp, gExt, gFrz, gNil, gExc, eVar, eC, e1, e2, eA, aNil, aCons, eTup, eLst, eCall, lCall, listR, eChain, tV, tAndD, tOrD, tNotD, eAnd, eOr, eNot, eIf, eL, lDisp, lList, lRep, oNone, oSome, eSl, iSeq, iRng1, iRng2, iZipD, iEnumD, iRevD, lListRange, lLc, eSorted, eSortSet, eLenSet, eBor, tBor, tYesD, noE, toB, dCmp, dSub, dNeg, dInt, dLen, dIs, dIsNot, List.map_cons, List.map_nil, List.length_cons, List.length_nil, Nat.reduceAdd, Nat.reduceSub, Nat.reduceLeDiff, List.replicate, List.cons_append, List.nil_append, List.append_nil, List.getElem?_cons_zero, List.getElem?_cons_succ, List.set_cons_zero, List.set_cons_succ, if_true, if_false, reduceIte, Bool.not_true, Bool.not_false, Bool.false_eq_true, reduceCtorEq, decide_true, dNe_int]
            match rest, hty, hrs with
            | [], _, _ =>
              have e : ¬ ((((0 : Nat) + 1 : Nat) : Int) = 2) := by decide
              simp only [dIx_t0, dIx_t1, dIx_l0, dIx_l1, toItems, itemsOf, runF, runL, startE, endF, endL, R.bind_ok, R.bind_exc, R.bind_stuck, gSeq, gIf, gSet, gOwn, gRet, gRetL, gRetO, gDrop, gTgt, gT, gsC, gsN, gN, gFor, gApp, gExt, gFrz, gNil, gExc, eVar, eC, e1, e2, eA, aNil, aCons, eTup, eLst, eCall, lCall, listR, eChain, tV, tAndD, tOrD, tNotD, eAnd, eOr, eNot, eIf, eL, lDisp, lList, lRep, oNone, oSome, eSl, iSeq, iRng1, iRng2, iZipD, iEnumD, iRevD, lListRange, lLc, eSorted, eSortSet, eLenSet, eBor, tBor, tYesD, noE, toB, dCmp, dSub, dNeg, dInt, dLen, dIs, dIsNot, List.map_cons, List.map_nil, List.length_cons, List.length_nil, Nat.reduceAdd, Nat.reduceSub, Nat.reduceLeDiff, List.replicate, List.cons_append, List.nil_append, List.append_nil, List.getElem?_cons_zero, List.getElem?_cons_succ, List.set_cons_zero, List.set_cons_succ, if_true, if_false, reduceIte, Bool.not_true, Bool.not_false, Bool.false_eq_true, reduceCtorEq, decide_eq_false e, eachB]
            | z1 :: z2 :: r, _, _ =>
              have e : ¬ (((r.length + 1 + 1 + 1 : Nat) : Int) = 2) := by omega
              simp only [dIx_t0, dIx_t1, dIx_l0, dIx_l1, toItems, itemsOf, runF, runL, startE, endF, endL, R.bind_ok, R.bind_exc, R.bind_stuck, gSeq, gIf, gSet, gOwn, gRet, gRetL, gRetO, gDrop, gTgt, gT, gsC, gsN, gN, gFor, gApp, gExt, gFrz, gNil, gExc, eVar, eC, e1, e2, eA, aNil, aCons, eTup, eLst, eCall, lCall, listR, eChain, tV, tAndD, tOrD, tNotD, eAnd, eOr, eNot, eIf, eL, lDisp, lList, lRep, oNone, oSome, eSl, iSeq, iRng1, iRng2, iZipD, iEnumD, iRevD, lListRange, lLc, eSorted, eSortSet, eLenSet, eBor, tBor, tYesD, noE, toB, dCmp, dSub, dNeg, dInt, dLen, dIs, dIsNot, List.map_cons, List.map_nil, List.length_cons, List.length_nil, Nat.reduceAdd, Nat.reduceSub, Nat.reduceLeDiff, List.replicate, List.cons_append, List.nil_append, List.append_nil, List.getElem?_cons_zero, List.getElem?_cons_succ, List.set_cons_zero, List.set_cons_succ, if_true, if_false, reduceIte, Bool.not_true, Bool.not_false, Bool.false_eq_true, reduceCtorEq, decide_eq_false e, eachB]
            | [z], hty, hrs =>
              have e : decide ((((0 : Nat) + 1 + 1 : Nat) : Int) = 2) = true := by decide
              simp only [dIx_t0, dIx_t1, dIx_l0, dIx_l1, toItems, itemsOf, runF, runL, startE, endF, endL, R.bind_ok, R.bind_exc, R.bind_stuck, gSeq, gIf, gSet, gOwn, gRet, gRetL, gRetO, gDrop, gTgt, gT, gsC, gsN, gN, gFor, gApp, gExt, gFrz, gNil, gExc, eVar, eC, e1, e2, eA, aNil, aCons, eTup, eLst, eCall, lCall, listR, eChain, tV, tAndD, tOrD, tNotD, eAnd, eOr, eNot, eIf, eL, lDisp, lList, lRep, oNone, oSome, eSl, iSeq, iRng1, iRng2, iZipD, iEnumD, iRevD, lListRange, lLc, eSorted, eSortSet, eLenSet, eBor, tBor, tYesD, noE, toB, dCmp, dSub, dNeg, dInt, dLen, dIs, dIsNot, List.map_cons, List.map_nil, List.length_cons, List.length_nil, Nat.reduceAdd, Nat.reduceSub, Nat.reduceLeDiff, List.replicate, List.cons_append, List.nil_append, List.append_nil, List.getElem?_cons_zero, List.getElem?_cons_succ, List.set_cons_zero, List.set_cons_succ, if_true, if_false, reduceIte, Bool.not_true, Bool.not_false, Bool.false_eq_true, reduceCtorEq, e, dEq_int]
              cases k with
              | zero =>
                have e0 : eachB ws cs 0 [z] f = false := by cases z <;> rfl
                have q1 : decide (((0 : Nat) : Int) = 0) = true := by decide
                simp only [dIx_t0, dIx_t1, dIx_l0, dIx_l1, toItems, itemsOf, runF, runL, startE, endF, endL, R.bind_ok, R.bind_exc, R.bind_stuck, gSeq, gIf, gSet, gOwn, gRet, gRetL, gRetO, gDrop, gTgt, gT, gsC, gsN, gN, gFor, gApp, gExt, gFrz, gNil, gExc, eVar, eC, e1, e2, eA, aNil, aCons, eTup, eLst, eCall, lCall, listR, eChain, tV, tAndD, tOrD, tNotD, eAnd, eOr, eNot, eIf, eL, lDisp, lList, lRep, oNone, oSome, eSl, iSeq, iRng1, iRng2, iZipD, iEnumD, iRevD, lListRange, lLc, eSorted, eSortSet, eLenSet, eBor, tBor, tYesD, noE, toB, dCmp, dSub, dNeg, dInt, dLen, dIs, dIsNot, List.map_cons, List.map_nil, List.length_cons, List.length_nil, Nat.reduceAdd, Nat.reduceSub, Nat.reduceLeDiff, List.replicate, List.cons_append, List.nil_append, List.append_nil, List.getElem?_cons_zero, List.getElem?_cons_succ, List.set_cons_zero, List.set_cons_succ, if_true, if_false, reduceIte, Bool.not_true, Bool.not_false, Bool.false_eq_true, reduceCtorEq, q1, e0]
              | succ k =>
                have q1 : ¬ (((k + 1 : Nat) : Int) = 0) := by omega
                by_cases hz : ∃ rows, z = .tuple rows
                · obtain ⟨rows, rfl⟩ := hz
                  obtain ⟨rl, hrow⟩ := hrs rows rfl
                  simp only [dIx_t0, dIx_t1, dIx_l0, dIx_l1, toItems, itemsOf, runF, runL, startE, endF, endL, R.bind_ok, R.bind_exc, R.bind_stuck, gSeq, gIf, gSet, gOwn, gRet, gRetL, gRetO, gDrop, gTgt, gT, gsC, gsN, gN, gFor, gApp, gExt, gFrz, gNil, gExc, eVar, eC, e1, e2, eA, aNil, aCons, eTup, eLst, eCall, lCall, listR, eChain, tV, tAndD, tOrD, tNotD, eAnd, eOr, eNot, eIf, eL, lDisp, lList, lRep, oNone, oSome, eSl, iSeq, iRng1, iRng2, iZipD, iEnumD, iRevD, lListRange, lLc, eSorted, eSortSet, eLenSet, eBor, tBor, tYesD, noE, toB, dCmp, dSub, dNeg, dInt, dLen, dIs, dIsNot, List.map_cons, List.map_nil, List.length_cons, List.length_nil, Nat.reduceAdd, Nat.reduceSub, Nat.reduceLeDiff, List.replicate, List.cons_append, List.nil_append, List.append_nil, List.getElem?_cons_zero, List.getElem?_cons_succ, List.set_cons_zero, List.set_cons_succ, if_true, if_false, reduceIte, Bool.not_true, Bool.not_false, Bool.false_eq_true, reduceCtorEq, decide_eq_false q1, isi_tuple (.tuple rows) (by simp [tyD]), dNe_int, List.length_map]
                  by_cases hlen : rows.length = ws.length
                  · have q2 : ((rows.length : Nat) : Int) = ((ws.length : Nat) : Int) := by rw [hlen]
                    obtain ⟨ρ', el⟩ := lhold_loop hws hc hl (k := k) (f := f k) (Rf := F__law_is_hold n) (rows := rows) (fun row hrw => ⟨(hrow row hrw).1, fun a b e => ⟨((hrow row hrw).2 a b e).1, hg b k ((hrow row hrw).2 a b e).2 rfl⟩⟩) ws rows 0 .no .no .no rfl rfl hlen.symm
                    rw [← List.range_eq_range'] at el
                    have jj : (-100000 ≤ (ws.length : Int) ∧ (ws.length : Int) ≤ 100000) := by omega
                    simp only [dIx_t0, dIx_t1, dIx_l0, dIx_l1, toItems, itemsOf, runF, runL, startE, endF, endL, R.bind_ok, R.bind_exc, R.bind_stuck, gSeq, gIf, gSet, gOwn, gRet, gRetL, gRetO, gDrop, gTgt, gT, gsC, gsN, gN, gFor, gApp, gExt, gFrz, gNil, gExc, eVar, eC, e1, e2, eA, aNil, aCons, eTup, eLst, eCall, lCall, listR, eChain, tV, tAndD, tOrD, tNotD, eAnd, eOr, eNot, eIf, eL, lDisp, lList, lRep, oNone, oSome, eSl, iSeq, iRng1, iRng2, iZipD, iEnumD, iRevD, lListRange, lLc, eSorted, eSortSet, eLenSet, eBor, tBor, tYesD, noE, toB, dCmp, dSub, dNeg, dInt, dLen, dIs, dIsNot, List.map_cons, List.map_nil, List.length_cons, List.length_nil, Nat.reduceAdd, Nat.reduceSub, Nat.reduceLeDiff, List.replicate, List.cons_append, List.nil_append, List.append_nil, List.getElem?_cons_zero, List.getElem?_cons_succ, List.set_cons_zero, List.set_cons_succ, if_true, if_false, reduceIte, Bool.not_true, Bool.not_false, Bool.false_eq_true, reduceCtorEq, decide_eq_true q2, List.length_map, jj, and_self, rd_ints', el, eachB]
                    cases rowsB (f k) cs ws rows <;> simp only [dIx_t0, dIx_t1, dIx_l0, dIx_l1, toItems, itemsOf, runF, runL, startE, endF, endL, R.bind_ok, R.bind_exc, R.bind_stuck, gSeq, gIf, gSet, gOwn, gRet, gRetL, gRetO, gDrop, gTgt, gT, gsC, gsN, gN, gFor, gApp, gExt, gFrz, gNil, gExc, eVar, eC, e1, e2, eA, aNil, aCons, eTup, eLst, eCall, lCall, listR, eChain, tV, tAndD, tOrD, tNotD, eAnd, eOr, eNot, eIf, eL, lDisp, lList, lRep, oNone, oSome, eSl, iSeq, iRng1, iRng2, iZipD, iEnumD, iRevD, lListRange, lLc, eSorted, eSortSet, eLenSet, eBor, tBor, tYesD, noE, toB, dCmp, dSub, dNeg, dInt, dLen, dIs, dIsNot, List.map_cons, List.map_nil, List.length_cons, List.length_nil, Nat.reduceAdd, Nat.reduceSub, Nat.reduceLeDiff, List.replicate, List.cons_append, List.nil_append, List.append_nil, List.getElem?_cons_zero, List.getElem?_cons_succ, List.set_cons_zero, List.set_cons_succ, if_true, if_false, reduceIte, Bool.not_true, Bool.not_false, Bool.false_eq_true, reduceCtorEq]
                  · have q2 : ¬ ((rows.length : Nat) : Int) = ((ws.length : Nat) : Int) := by omega
                    simp only [dIx_t0, dIx_t1, dIx_l0, dIx_l1, toItems, itemsOf, runF, runL, startE, endF, endL, R.bind_ok, R.bind_exc, R.bind_stuck, gSeq, gIf, gSet, gOwn, gRet, gRetL, gRetO, gDrop, gTgt, gT, gsC, gsN, gN, gFor, gApp, gExt, gFrz, gNil, gExc, eVar, eC, e1, e2, eA, aNil, aCons, eTup, eLst, eCall, lCall, listR, eChain, tV, tAndD, tOrD, tNotD, eAnd, eOr, eNot, eIf, eL, lDisp, lList, lRep, oNone, oSome, eSl, iSeq, iRng1, iRng2, iZipD, iEnumD, iRevD, lListRange, lLc, eSorted, eSortSet, eLenSet, eBor, tBor, tYesD, noE, toB, dCmp, dSub, dNeg, dInt, dLen, dIs, dIsNot, List.map_cons, List.map_nil, List.length_cons, List.length_nil, Nat.reduceAdd, Nat.reduceSub, Nat.reduceLeDiff, List.replicate, List.cons_append, List.nil_append, List.append_nil, List.getElem?_cons_zero, List.getElem?_cons_succ, List.set_cons_zero, List.set_cons_succ, if_true, if_false, reduceIte, Bool.not_true, Bool.not_false, Bool.false_eq_true, reduceCtorEq, decide_eq_false q2, eachB, rowsB_len (f := f k) (cs := cs) (Ne.symm hlen)]
                · have ez : eachB ws cs (k + 1) [z] f = false := by
                    cases z with
                    | tuple rows => exact absurd ⟨rows, rfl⟩ hz
                    | _ => rfl
                  have ei : dIsi "tuple" z = .ok (.bool false) := by
                    rw [isi_tuple z (hty z (by simp))]
                    cases z with
                    | tuple rows => exact absurd ⟨rows, rfl⟩ hz
                    | _ => rfl
                  simp only [dIx_t0, dIx_t1, dIx_l0, dIx_l1, toItems, itemsOf, runF, runL, startE, endF, endL, R.bind_ok, R.bind_exc, R.bind_stuck, gSeq, gIf, gSet, gOwn, gRet, gRetL, gRetO, gDrop, gTgt, gT, gsC, gsN, gN, gFor, gApp, gExt, gFrz, gNil, gExc, eVar, eC, e1, e2, eA, aNil, aCons, eTup, eLst, eCall, lCall, listR, eChain, tV, tAndD, tOrD, tNotD, eAnd, eOr, eNot, eIf, eL, lDisp, lList, lRep, oNone, oSome, eSl, iSeq, iRng1, iRng2, iZipD, iEnumD, iRevD, lListRange, lLc, eSorted, eSortSet, eLenSet, eBor, tBor, tYesD, noE, toB, dCmp, dSub, dNeg, dInt, dLen, dIs, dIsNot, List.map_cons, List.map_nil, List.length_cons, List.length_nil, Nat.reduceAdd, Nat.reduceSub, Nat.reduceLeDiff, List.replicate, List.cons_append, List.nil_append, List.append_nil, List.getElem?_cons_zero, List.getElem?_cons_succ, List.set_cons_zero, List.set_cons_succ, if_true, if_false, reduceIte, Bool.not_true, Bool.not_false, Bool.false_eq_true, reduceCtorEq, decide_eq_false q1, ei, ez]
          · simp only [dIx_t0, dIx_t1, dIx_l0, dIx_l1, toItems, itemsOf, runF, runL, startE, endF, endL, R.bind_ok, R.bind_exc, R.bind_stuck, gSeq, gIf, gSet, gOwn, gRet, gRetL, gRetO, gDrop, gTgt, gT, gsC, gsN, gN, gFor, gApp, gExt, gFrz, gNil, gExc, eVar, eC, e1, e2, eA, aNil, aCons, eTup, eLst, eCall, lCall, listR, eChain, tV, tAndD, tOrD, tNotD, eAnd, eOr, eNot, eIf, eL, lDisp, lList, lRep, oNone, oSome, eSl, iSeq, iRng1, iRng2, iZipD, iEnumD, iRevD, lListRange, lLc, eSorted, eSortSet, eLenSet, eBor, tBor, tYesD, noE, toB, dCmp, dSub, dNeg, dInt, dLen, dIs, dIsNot, List.map_cons, List.map_nil, List.length_cons, List.length_nil, Nat.reduceAdd, Nat.reduceSub, Nat.reduceLeDiff, List.replicate, List.cons_append, List.nil_append, List.append_nil, List.getElem?_cons_zero, List.getElem?_cons_succ, List.set_cons_zero, List.set_cons_succ, if_true, if_false, reduceIte, Bool.not_true, Bool.not_false, Bool.false_eq_true, reduceCtorEq, decide_eq_false h2, if_neg h2]
      all_goals simp only [dIx_t0, dIx_t1, dIx_l0, dIx_l1, toItems, itemsOf, runF, runL, startE, endF, endL, R.bind_ok, R.bind_exc, R.bind_stuck, gSeq, gIf, gSet, gOwn, gRet, gRetL, gRetO, gDrop, gTgt, gT, gsC, gsN, gN, gFor, gApp, gExt, gFrz, gNil, gExc, eVar, eC, e1, e2, eA, aNil, aCons, eTup, eLst, eCall, lCall, listR, eChain, tV, tAndD, tOrD, tNotD, eAnd, eOr, eNot, eIf, eL, lDisp, lList, lRep, oNone, oSome, eSl, iSeq, iRng1, iRng2, iZipD, iEnumD, iRevD, lListRange, lLc, eSorted, eSortSet, eLenSet, eBor, tBor, tYesD, noE, toB, dCmp, dSub, dNeg, dInt, dLen, dIs, dIsNot, List.map_cons, List.map_nil, List.length_cons, List.length_nil, Nat.reduceAdd, Nat.reduceSub, Nat.reduceLeDiff, List.replicate, List.cons_append, List.nil_append, List.append_nil, List.getElem?_cons_zero, List.getElem?_cons_succ, List.set_cons_zero, List.set_cons_succ, if_true, if_false, reduceIte, Bool.not_true, Bool.not_false, Bool.false_eq_true, reduceCtorEq, hTop]
  all_goals simp only [dIx_t0, dIx_t1, dIx_l0, dIx_l1, toItems, itemsOf, runF, runL, startE, endF, endL, R.bind_ok, R.bind_exc, R.bind_stuck, gSeq, gIf, gSet, gOwn, gRet, gRetL, gRetO, gDrop, gTgt, gT, gsC, gsN, gN, gFor, gApp, gExt, gFrz, gNil, gExc, eVar, eC, e1, e2, eA, aNil, aCons, eTup, eLst, eCall, lCall, listR, eChain, tV, tAndD, tOrD, tNotD, eAnd, eOr, eNot, eIf, eL, lDisp, lList, lRep, oNone, oSome, eSl, iSeq, iRng1, iRng2, iZipD, iEnumD, iRevD, lListRange, lLc, eSorted, eSortSet, eLenSet, eBor, tBor, tYesD, noE, toB, dCmp, dSub, dNeg, dInt, dLen, dIs, dIsNot, List.map_cons, List.map_nil, List.length_cons, List.length_nil, Nat.reduceAdd, Nat.reduceSub, Nat.reduceLeDiff, List.replicate, List.cons_append, List.nil_append, List.append_nil, List.getElem?_cons_zero, List.getElem?_cons_succ, List.set_cons_zero, List.set_cons_succ, if_true, if_false, reduceIte, Bool.not_true, Bool.not_false, Bool.false_eq_true, reduceCtorEq, hTop]
theorem F__law_is_hold_eq {m : Nat} {ws : List Wg} (hws : ∀ w ∈ ws, WgOk m w) (hwl : ws.length ≤ 1000) : ∀ (j n k : Nat) (t : D), j + 1 ≤ n → k ≤ 1000 → fineH j t → ∀ (cs : List (List Int)), (∀ c ∈ cs, CaseOk m c) → cs.length ≤ 100 → F__law_is_hold n [.list (ws.map encW), .list (cs.map encC), .int k, t] = .ok (.bool (holdB ws j k cs t))
  | 0, n, k, t, hn, hk, ht, cs, hc, hl => by
    obtain ⟨n, rfl⟩ : ∃ n', n = n' + 1 := ⟨n - 1, by omega⟩
    exact lhold_top hws hwl hc hl hk t ht fun b k' hb => hb.elim
  | j + 1, n, k, t, hn, hk, ht, cs, hc, hl => by
    obtain ⟨n, rfl⟩ : ∃ n', n = n' + 1 := ⟨n - 1, by omega⟩
    exact lhold_top hws hwl hc hl hk t ht fun b k' hb e l hcl hll => F__law_is_hold_eq hws hwl j n k' b (by omega) (by omega) hb l hcl hll
end W

set_option Elab.async false
set_option linter.all false
set_option maxRecDepth 100000
set_option maxHeartbeats 1000000
namespace W
open PySem PL
/-! ### Search, typed: hold -/
abbrev outD : D := .tuple (([-1, 0, 1] : List Int).map PyData.int)
section
variable {m n : Nat} {cs : List (List Int)} {ws : List Wg}
theorem hold_1 (S : Srch m n cs ws) {k : Nat} (hk : k < 20) {s : List Int} (hs : Pl12 n s) {w : Wg} (hu : ∃ p ∈ partsI (rowOf cs w) s, fitI (rowsW cs ws) k p = false) (Rh : List D → PL.R D) (ds : List D) (s4 s6 : PL.Slot noObj) :
    ∃ (b d : Int) (rest : List D), c_m_hold_1 Rh [.val (zS cs ws (rowsW cs ws)), .val (tupI s), .val (.int ((k + 1 : Nat) : Int)), .own ds, s4, .val (.list ((partsI (rowOf cs w) s).map tupI)), s6, .no] = .ok (.int b :: rest) ∧
      dIx (.list ((partsI (rowOf cs w) s).map tupI)) (.int b) = .ok (tupI (idxI s (rowOf cs w) d)) ∧ dIx outD (.int b) = .ok (.int d) ∧ fitI (rowsW cs ws) k (idxI s (rowOf cs w) d) = false ∧ -1 ≤ d ∧ d ≤ 1 := by
  have hrows := rows_len (ws := ws) S.len
  have q3 : ((k + 1 : Nat) : Int) - 1 = (k : Int) := by omega
  have self := self_zS cs ws (rowsW cs ws)
  have fe : ∀ d, F_m_fits 60 [zS cs ws (rowsW cs ws), tupI (idxI s (rowOf cs w) d), .int k] = .ok (.bool (fitI (rowsW cs ws) k (idxI s (rowOf cs w) d))) := fun d => F_fits_eq hrows k 60 _ (by omega) hk (hs.idx _ d)
  have i0 : dIx (.list [tupI (idxI s (rowOf cs w) (-1)), tupI (idxI s (rowOf cs w) 0), tupI (idxI s (rowOf cs w) 1)]) (.int 0) = .ok (tupI (idxI s (rowOf cs w) (-1))) := dIx_list (by decide) rfl
  have i1 : dIx (.list [tupI (idxI s (rowOf cs w) (-1)), tupI (idxI s (rowOf cs w) 0), tupI (idxI s (rowOf cs w) 1)]) (.int 1) = .ok (tupI (idxI s (rowOf cs w) 0)) := dIx_list (by decide) rfl
  have i2 : dIx (.list [tupI (idxI s (rowOf cs w) (-1)), tupI (idxI s (rowOf cs w) 0), tupI (idxI s (rowOf cs w) 1)]) (.int 2) = .ok (tupI (idxI s (rowOf cs w) 1)) := dIx_list (by decide) rfl
  have ps : (partsI (rowOf cs w) s).map tupI = [tupI (idxI s (rowOf cs w) (-1)), tupI (idxI s (rowOf cs w) 0), tupI (idxI s (rowOf cs w) 1)] := rfl
  rw [ps]
  have key : c_m_hold_1 Rh [.val (zS cs ws (rowsW cs ws)), .val (tupI s), .val (.int ((k + 1 : Nat) : Int)), .own ds, s4, .val (.list [tupI (idxI s (rowOf cs w) (-1)), tupI (idxI s (rowOf cs w) 0), tupI (idxI s (rowOf cs w) 1)]), s6, .no] = .ok ((if fitI (rowsW cs ws) k (idxI s (rowOf cs w) (-1)) = true then [] else [.int 0]) ++ ((if fitI (rowsW cs ws) k (idxI s (rowOf cs w) 0) = true then [] else [.int 1]) ++ ((if fitI (rowsW cs ws) k (idxI s (rowOf cs w) 1) = true then [] else [.int 2]) ++ []))) := by
    unfold c_m_hold_1
    simp only [dIx_t0, dIx_t1, dIx_l0, dIx_l1, toItems, itemsOf, runF, runL, startE, endF, endL, R.bind_ok, R.bind_exc, R.bind_stuck, gSeq, gIf, gSet, gOwn, gRet, gRetL, gRetO, gDrop, gTgt, gT, gsC, gsN, gN, gFor, gApp, gExt, gFrz, gNil, gExc, eVar, eC, e1, e2, eA, aNil, aCons, eTup, eLst, eCall, lCall, listR, eChain, tV, tAndD, tOrD, tNotD, eAnd, eOr, eNot, eIf, eL, lDisp, lList, lRep, oNone, oSome, eSl, iSeq, iRng1, iRng2, iZipD, iEnumD, iRevD, lListRange, lLc, eSorted, eSortSet, eLenSet, eBor, tBor, tYesD, noE, toB, dCmp, dSub, dNeg, dInt, dLen, dIs, dIsNot, List.map_cons, List.map_nil, List.length_cons, List.length_nil, Nat.reduceAdd, Nat.reduceSub, Nat.reduceLeDiff, List.replicate, List.cons_append, List.nil_append, List.append_nil, List.getElem?_cons_zero, List.getElem?_cons_succ, List.set_cons_zero, List.set_cons_succ, if_true, if_false, reduceIte, Bool.not_true, Bool.not_false, Bool.false_eq_true, reduceCtorEq]
    rw [if_pos ⟨by decide, by decide⟩]
    simp only [dIx_t0, dIx_t1, dIx_l0, dIx_l1, toItems, itemsOf, runF, runL, startE, endF, endL, R.bind_ok, R.bind_exc, R.bind_stuck, gSeq, gIf, gSet, gOwn, gRet, gRetL, gRetO, gDrop, gTgt, gT, gsC, gsN, gN, gFor, gApp, gExt, gFrz, gNil, gExc, eVar, eC, e1, e2, eA, aNil, aCons, eTup, eLst, eCall, lCall, listR, eChain, tV, tAndD, tOrD, tNotD, eAnd, eOr, eNot, eIf, eL, lDisp, lList, lRep, oNone, oSome, eSl, iSeq, iRng1, iRng2, iZipD, iEnumD, iRevD, lListRange, lLc, eSorted, eSortSet, eLenSet, eBor, tBor, tYesD, noE, toB, dCmp, dSub, dNeg, dInt, dLen, dIs, dIsNot, List.map_cons, List.map_nil, List.length_cons, List.length_nil, Nat.reduceAdd, Nat.reduceSub, Nat.reduceLeDiff, List.replicate, List.cons_append, List.nil_append, List.append_nil, List.getElem?_cons_zero, List.getElem?_cons_succ, List.set_cons_zero, List.set_cons_succ, if_true, if_false, reduceIte, Bool.not_true, Bool.not_false, Bool.false_eq_true, reduceCtorEq, rd3]
    rw [if_pos ⟨by decide, rfl⟩]
    refine noE_of ?_
    simp only [eachR]
    unfold lcStep
    simp only [dIx_t0, dIx_t1, dIx_l0, dIx_l1, toItems, itemsOf, runF, runL, startE, endF, endL, R.bind_ok, R.bind_exc, R.bind_stuck, gSeq, gIf, gSet, gOwn, gRet, gRetL, gRetO, gDrop, gTgt, gT, gsC, gsN, gN, gFor, gApp, gExt, gFrz, gNil, gExc, eVar, eC, e1, e2, eA, aNil, aCons, eTup, eLst, eCall, lCall, listR, eChain, tV, tAndD, tOrD, tNotD, eAnd, eOr, eNot, eIf, eL, lDisp, lList, lRep, oNone, oSome, eSl, iSeq, iRng1, iRng2, iZipD, iEnumD, iRevD, lListRange, lLc, eSorted, eSortSet, eLenSet, eBor, tBor, tYesD, noE, toB, dCmp, dSub, dNeg, dInt, dLen, dIs, dIsNot, List.map_cons, List.map_nil, List.length_cons, List.length_nil, Nat.reduceAdd, Nat.reduceSub, Nat.reduceLeDiff, List.replicate, List.cons_append, List.nil_append, List.append_nil, List.getElem?_cons_zero, List.getElem?_cons_succ, List.set_cons_zero, List.set_cons_succ, if_true, if_false, reduceIte, Bool.not_true, Bool.not_false, Bool.false_eq_true, reduceCtorEq, wipeE, eMeth, self, i0, i1, i2, q3, fe]
    cases fitI (rowsW cs ws) k (idxI s (rowOf cs w) (-1)) <;> cases fitI (rowsW cs ws) k (idxI s (rowOf cs w) 0) <;> cases fitI (rowsW cs ws) k (idxI s (rowOf cs w) 1) <;> simp only [dIx_t0, dIx_t1, dIx_l0, dIx_l1, toItems, itemsOf, runF, runL, startE, endF, endL, R.bind_ok, R.bind_exc, R.bind_stuck, gSeq, gIf, gSet, gOwn, gRet, gRetL, gRetO, gDrop, gTgt, gT, gsC, gsN, gN, gFor, gApp, gExt, gFrz, gNil, gExc, eVar, eC, e1, e2, eA, aNil, aCons, eTup, eLst, eCall, lCall, listR, eChain, tV, tAndD, tOrD, tNotD, eAnd, eOr, eNot, eIf, eL, lDisp, lList, lRep, oNone, oSome, eSl, iSeq, iRng1, iRng2, iZipD, iEnumD, iRevD, lListRange, lLc, eSorted, eSortSet, eLenSet, eBor, tBor, tYesD, noE, toB, dCmp, dSub, dNeg, dInt, dLen, dIs, dIsNot, List.map_cons, List.map_nil, List.length_cons, List.length_nil, Nat.reduceAdd, Nat.reduceSub, Nat.reduceLeDiff, List.replicate, List.cons_append, List.nil_append, List.append_nil, List.getElem?_cons_zero, List.getElem?_cons_succ, List.set_cons_zero, List.set_cons_succ, if_true, if_false, reduceIte, Bool.not_true, Bool.not_false, Bool.false_eq_true, reduceCtorEq]
  rw [key]
  by_cases h0 : fitI (rowsW cs ws) k (idxI s (rowOf cs w) (-1)) = true
  · by_cases h1 : fitI (rowsW cs ws) k (idxI s (rowOf cs w) 0) = true
    · by_cases h2 : fitI (rowsW cs ws) k (idxI s (rowOf cs w) 1) = true
      · obtain ⟨p, hp, hf⟩ := hu
        simp only [partsI, List.mem_cons, List.not_mem_nil, or_false] at hp
        rcases hp with rfl | rfl | rfl
        · rw [h0] at hf; cases hf
        · rw [h1] at hf; cases hf
        · rw [h2] at hf; cases hf
      · exact ⟨2, 1, _, by rw [if_pos h0, if_pos h1, if_neg h2]; rfl, i2, rfl, by simpa using h2, by decide, by decide⟩
    · exact ⟨1, 0, _, by rw [if_pos h0, if_neg h1]; rfl, i1, rfl, by simpa using h1, by decide, by decide⟩
  · exact ⟨0, -1, _, by rw [if_neg h0]; rfl, i0, rfl, by simpa using h0, by decide, by decide⟩
def HoldIs (ws : List Wg) (k : Nat) (cs : List (List Int)) (t : D) : Prop := holdB ws k k cs t = true ∧ fineH k t
theorem hold_step (S : Srch m n cs ws) {k : Nat} (hk : k < 20) {s : List Int} (hs : Pl12 n s) {w : Wg} (hu : ∃ p ∈ partsI (rowOf cs w) s, fitI (rowsW cs ws) k p = false) {Rh : List D → PL.R D}
    (hR : ∀ p, Pl12 n p → fitI (rowsW cs ws) k p = false → ∃ t, Rh [zS cs ws (rowsW cs ws), tupI p, .int k] = .ok t ∧ HoldIs ws k (pickC cs p) t) (ds : List D) (hd : ds.length < 1000) (s5 s6 : PL.Slot noObj) :
    ∃ t5 t6 row, g_m_hold_L1 Rh [.val (zS cs ws (rowsW cs ws)), .val (tupI s), .val (.int ((k + 1 : Nat) : Int)), .own ds, .val (lstI (rowOf cs w)), s5, s6, .no] = .ok (.nx, [.val (zS cs ws (rowsW cs ws)), .val (tupI s), .val (.int ((k + 1 : Nat) : Int)), .own (ds ++ [row]), .val (lstI (rowOf cs w)), t5, t6, .no]) ∧
      rowB (holdB ws k k) (pickC cs s) w row = true ∧ tyD row ≠ none ∧ ∀ a b, row = .tuple [a, b] → tyD a ≠ none ∧ fineH k b := by
  obtain ⟨b, d, rest, k1, k2, k3, k4, k5, k6⟩ := hold_1 S hk hs hu Rh ds (.val (lstI (rowOf cs w))) s6
  have q3 : ((k + 1 : Nat) : Int) - 1 = (k : Int) := by omega
  have self := self_zS cs ws (rowsW cs ws)
  have rl : (rowOf cs w).length = n := by simpa [rowOf] using S.len
  have pe := F_parts_eq (rl ▸ hs.i) (by have := hs.le; omega) (zS cs ws (rowsW cs ws))
  obtain ⟨t, r1, r2, r3⟩ := hR _ (hs.idx (rowOf cs w) d) k4
  have hin : In cs.length s := by rw [S.len]; exact hs.i
  have hd' : ds.length < 100000 := by omega
  have i0 : dIx (.list (.int b :: rest)) (.int 0) = .ok (.int b) := dIx_l0 _ _
  unfold outD at k3
  refine ⟨.val (.list ((partsI (rowOf cs w) s).map tupI)), .val (.int b), .tuple [.int d, t], ?_, ?_, by simp [tyD], fun a b' e => ?_⟩
  · unfold g_m_hold_L1
    simp only [dIx_t0, dIx_t1, dIx_l0, dIx_l1, toItems, itemsOf, runF, runL, startE, endF, endL, R.bind_ok, R.bind_exc, R.bind_stuck, gSeq, gIf, gSet, gOwn, gRet, gRetL, gRetO, gDrop, gTgt, gT, gsC, gsN, gN, gFor, gApp, gExt, gFrz, gNil, gExc, eVar, eC, e1, e2, eA, aNil, aCons, eTup, eLst, eCall, lCall, listR, eChain, tV, tAndD, tOrD, tNotD, eAnd, eOr, eNot, eIf, eL, lDisp, lList, lRep, oNone, oSome, eSl, iSeq, iRng1, iRng2, iZipD, iEnumD, iRevD, lListRange, lLc, eSorted, eSortSet, eLenSet, eBor, tBor, tYesD, noE, toB, dCmp, dSub, dNeg, dInt, dLen, dIs, dIsNot, List.map_cons, List.map_nil, List.length_cons, List.length_nil, Nat.reduceAdd, Nat.reduceSub, Nat.reduceLeDiff, List.replicate, List.cons_append, List.nil_append, List.append_nil, List.getElem?_cons_zero, List.getElem?_cons_succ, List.set_cons_zero, List.set_cons_succ, if_true, if_false, reduceIte, Bool.not_true, Bool.not_false, Bool.false_eq_true, reduceCtorEq] at k3 ⊢
    simp only [dIx_t0, dIx_t1, dIx_l0, dIx_l1, toItems, itemsOf, runF, runL, startE, endF, endL, R.bind_ok, R.bind_exc, R.bind_stuck, gSeq, gIf, gSet, gOwn, gRet, gRetL, gRetO, gDrop, gTgt, gT, gsC, gsN, gN, gFor, gApp, gExt, gFrz, gNil, gExc, eVar, eC, e1, e2, eA, aNil, aCons, eTup, eLst, eCall, lCall, listR, eChain, tV, tAndD, tOrD, tNotD, eAnd, eOr, eNot, eIf, eL, lDisp, lList, lRep, oNone, oSome, eSl, iSeq, iRng1, iRng2, iZipD, iEnumD, iRevD, lListRange, lLc, eSorted, eSortSet, eLenSet, eBor, tBor, tYesD, noE, toB, dCmp, dSub, dNeg, dInt, dLen, dIs, dIsNot, List.map_cons, List.map_nil, List.length_cons, List.length_nil, Nat.reduceAdd, Nat.reduceSub, Nat.reduceLeDiff, List.replicate, List.cons_append, List.nil_append, List.append_nil, List.getElem?_cons_zero, List.getElem?_cons_succ, List.set_cons_zero, List.set_cons_succ, if_true, if_false, reduceIte, Bool.not_true, Bool.not_false, Bool.false_eq_true, reduceCtorEq, eMeth, self, pe, k1, i0, k2, k3, q3, r1, hd']
  · have am : amongB (-1) 1 (.int d) = true := by simp [amongB, k5, k6]
    simp only [rowB, am, Bool.true_and, valI]
    rw [by_pick hin]
    exact r2
  · cases e
    exact ⟨by simp [tyD], r3⟩
theorem hold_loop (S : Srch m n cs ws) {k : Nat} (hk : k < 20) {s : List Int} (hs : Pl12 n s) (hu : ∀ w ∈ ws, ∃ p ∈ partsI (rowOf cs w) s, fitI (rowsW cs ws) k p = false) {Rh : List D → PL.R D}
    (hR : ∀ p, Pl12 n p → fitI (rowsW cs ws) k p = false → ∃ t, Rh [zS cs ws (rowsW cs ws), tupI p, .int k] = .ok t ∧ HoldIs ws k (pickC cs p) t) : ∀ (ws' : List Wg) (ds : List D) (s4 s5 s6 : PL.Slot noObj), (∀ w ∈ ws', w ∈ ws) → ds.length + ws'.length < 1000 →
    ∃ t4 t5 t6 hs', loopF (gN 4) (g_m_hold_L1 Rh) (ws'.map fun w => lstI (rowOf cs w)) [.val (zS cs ws (rowsW cs ws)), .val (tupI s), .val (.int ((k + 1 : Nat) : Int)), .own ds, s4, s5, s6, .no] = .ok (.nx, [.val (zS cs ws (rowsW cs ws)), .val (tupI s), .val (.int ((k + 1 : Nat) : Int)), .own (ds ++ hs'), t4, t5, t6, .no]) ∧
      rowsB (holdB ws k k) (pickC cs s) ws' hs' = true ∧ hs'.length = ws'.length ∧ ∀ row ∈ hs', tyD row ≠ none ∧ ∀ a b, row = .tuple [a, b] → tyD a ≠ none ∧ fineH k b
  | [], ds, s4, s5, s6, _, _ => ⟨s4, s5, s6, [], by rw [List.append_nil]; rfl, rfl, rfl, fun row h => (List.not_mem_nil h).elim⟩
  | w :: ws', ds, s4, s5, s6, hw, hl => by
    simp only [List.length_cons] at hl
    obtain ⟨t5, t6, row, es, r1, r2, r3⟩ := hold_step S hk hs (hu w (hw w (List.mem_cons_self ..))) hR ds (by omega) s5 s6
    obtain ⟨u4, u5, u6, hs', el, q1, q2, q3⟩ := hold_loop S hk hs hu hR ws' (ds ++ [row]) (.val (lstI (rowOf cs w))) t5 t6 (fun v hv => hw v (List.mem_cons_of_mem _ hv)) (by simp; omega)
    refine ⟨u4, u5, u6, row :: hs', ?_, ?_, by simp [q2], fun r hr => ?_⟩
    · rw [List.append_assoc] at el
      rw [List.map_cons]
      unfold loopF
      simp only [dIx_t0, dIx_t1, dIx_l0, dIx_l1, toItems, itemsOf, runF, runL, startE, endF, endL, R.bind_ok, R.bind_exc, R.bind_stuck, gSeq, gIf, gSet, gOwn, gRet, gRetL, gRetO, gDrop, gTgt, gT, gsC, gsN, gN, gFor, gApp, gExt, gFrz, gNil, gExc, eVar, eC, e1, e2, eA, aNil, aCons, eTup, eLst, eCall, lCall, listR, eChain, tV, tAndD, tOrD, tNotD, eAnd, eOr, eNot, eIf, eL, lDisp, lList, lRep, oNone, oSome, eSl, iSeq, iRng1, iRng2, iZipD, iEnumD, iRevD, lListRange, lLc, eSorted, eSortSet, eLenSet, eBor, tBor, tYesD, noE, toB, dCmp, dSub, dNeg, dInt, dLen, dIs, dIsNot, List.map_cons, List.map_nil, List.length_cons, List.length_nil, Nat.reduceAdd, Nat.reduceSub, Nat.reduceLeDiff, List.replicate, List.cons_append, List.nil_append, List.append_nil, List.getElem?_cons_zero, List.getElem?_cons_succ, List.set_cons_zero, List.set_cons_succ, if_true, if_false, reduceIte, Bool.not_true, Bool.not_false, Bool.false_eq_true, reduceCtorEq, es]
      exact el
    · simp only [rowsB, r1, q1, Bool.and_self]
    · rcases List.mem_cons.mp hr with rfl | hr
      · exact ⟨r2, r3⟩
      · exact q3 r hr
theorem many_is {ws : List Wg} {k : Nat} {cs : List (List Int)} (h : 3 ^ k < cs.length) : HoldIs ws k cs (.tuple [.str sMany]) := by
  have e : ∀ f, hTop ws cs k (.tuple [.str sMany]) f = true := fun f => by simp [hTop, h]
  have f : ∀ g, fineHT (.tuple [.str sMany]) g := fun g => ⟨by simp [tyD], fun xs e => by
    cases e
    refine ⟨fun y hy => ?_, fun s r e => ?_, fun rows e => ?_⟩
    · simp only [List.mem_cons, List.not_mem_nil, or_false] at hy
      subst hy
      simp [tyD]
    · cases e
      exact okMany
    · cases e⟩
  cases k with
  | zero => exact ⟨e _, f _⟩
  | succ k => exact ⟨e _, f _⟩
theorem F_hold_eq (S : Srch m n cs ws) : ∀ (k f : Nat) (s : List Int), k + 1 ≤ f → k < 20 → Pl12 n s → fitI (rowsW cs ws) k s = false → ∃ t, F_m_hold f [zS cs ws (rowsW cs ws), tupI s, .int k] = .ok t ∧ HoldIs ws k (pickC cs s) t
  | k, f, s, hf, hk, hs, hfit => by
    obtain ⟨f, rfl⟩ : ∃ f', f = f' + 1 := ⟨f - 1, by omega⟩
    have im := is_many_tup s k (by omega)
    have pl : (pickC cs s).length = s.length := by simp [pickC]
    have h2 : ¬ s.length < 2 := fun h => by rw [fit_lt h] at hfit; cases hfit
    by_cases h3 : 3 ^ k < s.length
    · refine ⟨.tuple [.str sMany], ?_, many_is (by rw [pl]; exact h3)⟩
      show runF 8 (g_m_hold (F_m_hold f)) _ = _
      unfold g_m_hold
      simp only [dIx_t0, dIx_t1, dIx_l0, dIx_l1, toItems, itemsOf, runF, runL, startE, endF, endL, R.bind_ok, R.bind_exc, R.bind_stuck, gSeq, gIf, gSet, gOwn, gRet, gRetL, gRetO, gDrop, gTgt, gT, gsC, gsN, gN, gFor, gApp, gExt, gFrz, gNil, gExc, eVar, eC, e1, e2, eA, aNil, aCons, eTup, eLst, eCall, lCall, listR, eChain, tV, tAndD, tOrD, tNotD, eAnd, eOr, eNot, eIf, eL, lDisp, lList, lRep, oNone, oSome, eSl, iSeq, iRng1, iRng2, iZipD, iEnumD, iRevD, lListRange, lLc, eSorted, eSortSet, eLenSet, eBor, tBor, tYesD, noE, toB, dCmp, dSub, dNeg, dInt, dLen, dIs, dIsNot, List.map_cons, List.map_nil, List.length_cons, List.length_nil, Nat.reduceAdd, Nat.reduceSub, Nat.reduceLeDiff, List.replicate, List.cons_append, List.nil_append, List.append_nil, List.getElem?_cons_zero, List.getElem?_cons_succ, List.set_cons_zero, List.set_cons_succ, if_true, if_false, reduceIte, Bool.not_true, Bool.not_false, Bool.false_eq_true, reduceCtorEq, im, decide_eq_true h3]
    · cases k with
      | zero => simp at h3; omega
      | succ k =>
        have hany : (rowsW cs ws).any (tryI (fitI (rowsW cs ws) k) s) = false := by
          cases e : (rowsW cs ws).any (tryI (fitI (rowsW cs ws) k) s) with
          | false => rfl
          | true =>
            rw [(fit_succ h2).mpr ⟨by omega, e⟩] at hfit
            cases hfit
        have hu : ∀ w ∈ ws, ∃ p ∈ partsI (rowOf cs w) s, fitI (rowsW cs ws) k p = false := fun w hw => by
          have ht : tryI (fitI (rowsW cs ws) k) s (rowOf cs w) = false := by
            cases e : tryI (fitI (rowsW cs ws) k) s (rowOf cs w) with
            | false => rfl
            | true =>
              have z : (rowsW cs ws).any (tryI (fitI (rowsW cs ws) k) s) = true := List.any_eq_true.mpr ⟨rowOf cs w, List.mem_map_of_mem hw, e⟩
              rw [hany] at z
              cases z
          by_cases hm : s ∈ partsI (rowOf cs w) s
          · refine ⟨s, hm, ?_⟩
            cases e : fitI (rowsW cs ws) k s with
            | false => rfl
            | true => rw [fit_mono1 k e] at hfit; cases hfit
          · unfold tryI at ht
            rw [decide_eq_false hm, Bool.not_false, Bool.true_and] at ht
            obtain ⟨p, hp, hn⟩ := List.all_eq_false.mp ht
            exact ⟨p, hp, by simpa using hn⟩
        obtain ⟨t4, t5, t6, hs', el, q1, q2, q3⟩ := hold_loop S (k := k) (by omega) hs hu (Rh := F_m_hold f) (fun p hp hpf => F_hold_eq S k f p (by omega) (by omega) hp hpf) ws [] .no .no .no (fun w hw => hw) (by have := S.wl; simp; omega)
        refine ⟨.tuple [.str sEach, .tuple hs'], ?_, ?_, ?_⟩
        · have fl2 : dFld 2 (zS cs ws (rowsW cs ws)) = .ok (.list (ws.map fun w => lstI (rowOf cs w))) := by
            show R.ok (rowsD (rowsW cs ws)) = _
            unfold rowsD rowsW
            rw [List.map_map]
            rfl
          have t1 : ∀ xs : List D, dTuple [.list xs] = .ok (.tuple xs) := fun _ => rfl
          show runF 8 (g_m_hold (F_m_hold f)) _ = _
          unfold g_m_hold
          rw [List.nil_append] at el
          simp only [dIx_t0, dIx_t1, dIx_l0, dIx_l1, toItems, itemsOf, runF, runL, startE, endF, endL, R.bind_ok, R.bind_exc, R.bind_stuck, gSeq, gIf, gSet, gOwn, gRet, gRetL, gRetO, gDrop, gTgt, gT, gsC, gsN, gN, gFor, gApp, gExt, gFrz, gNil, gExc, eVar, eC, e1, e2, eA, aNil, aCons, eTup, eLst, eCall, lCall, listR, eChain, tV, tAndD, tOrD, tNotD, eAnd, eOr, eNot, eIf, eL, lDisp, lList, lRep, oNone, oSome, eSl, iSeq, iRng1, iRng2, iZipD, iEnumD, iRevD, lListRange, lLc, eSorted, eSortSet, eLenSet, eBor, tBor, tYesD, noE, toB, dCmp, dSub, dNeg, dInt, dLen, dIs, dIsNot, List.map_cons, List.map_nil, List.length_cons, List.length_nil, Nat.reduceAdd, Nat.reduceSub, Nat.reduceLeDiff, List.replicate, List.cons_append, List.nil_append, List.append_nil, List.getElem?_cons_zero, List.getElem?_cons_succ, List.set_cons_zero, List.set_cons_succ, if_true, if_false, reduceIte, Bool.not_true, Bool.not_false, Bool.false_eq_true, reduceCtorEq, im, decide_eq_false h3, fl2, el, t1]
        · show hTop ws (pickC cs s) (k + 1) _ (holdB ws k) = true
          simp only [hTop, if_neg each_ne, if_true, eachB, q1]
        · refine ⟨by simp [tyD], fun xs e => ?_⟩
          cases e
          refine ⟨fun y hy => ?_, fun s' r e => ?_, fun rows e => ?_⟩
          · simp only [List.mem_cons, List.not_mem_nil, or_false] at hy
            rcases hy with rfl | rfl <;> simp [tyD]
          · cases e
            exact okEach
          · cases e
            exact ⟨by have := S.wl; omega, q3⟩
end
end W

set_option Elab.async false
set_option linter.all false
set_option maxRecDepth 100000
set_option maxHeartbeats 1000000
namespace W
open PySem PL
def goodW (m : Nat) (w : Wg) : Bool := isW m (encW w) && (isW m (encW (swapW w)) && (decide (w.1.length ≤ 30) && decide (w.2.length ≤ 30)))
theorem good2 : ((Ws 2).all (goodW 2)) = true := by decide +kernel
theorem good3 : ((Ws 3).all (goodW 3)) = true := by decide +kernel
theorem good4 : ((Ws 4).all (goodW 4)) = true := by decide +kernel
theorem good5 : ((Ws 5).all (goodW 5)) = true := by decide +kernel
theorem goodWs {m : Nat} (hm : Many m) : ∀ w ∈ Ws m, isW m (encW w) = true ∧ isW m (encW (swapW w)) = true ∧ w.1.length ≤ 30 ∧ w.2.length ≤ 30 := fun w hw => by
  have h : goodW m w = true := by
    rcases hm with rfl | rfl | rfl | rfl
    · exact List.all_eq_true.mp good2 w hw
    · exact List.all_eq_true.mp good3 w hw
    · exact List.all_eq_true.mp good4 w hw
    · exact List.all_eq_true.mp good5 w hw
  simpa [goodW] using h
end W

set_option Elab.async false
set_option linter.all false
set_option maxRecDepth 100000
set_option maxHeartbeats 1000000
namespace W
open PySem PL
/-! ### weighings that were done; what is open -/
abbrev Dn := Wg × Int
def encX (x : Dn) : D := .tuple [encW x.1, .int x.2]
def openI (ds : List Dn) (cs : List (List Int)) : List (List Int) := cs.filter fun c => ds.all fun x => decide (cm x.1 c = x.2)
structure DnOk (m : Nat) (x : Dn) : Prop where
  w : isW m (encW x.1) = true
  l1 : x.1.1.length ≤ 30
  l2 : x.1.2.length ≤ 30
  lo : -1 ≤ x.2
  hi : x.2 ≤ 1
theorem lookW_of {w : Wg} (h1 : w.1.length ≤ 30) (h2 : w.2.length ≤ 30) : lookW (encW w) := ⟨sh_up (encW_sh w) (by decide), fun us e => by
  cases e
  refine ⟨by simp, fun ys hy => ?_⟩
  simp only [List.mem_cons, List.not_mem_nil, or_false, PyData.tuple.injEq] at hy
  rcases hy with rfl | rfl <;> simpa⟩
theorem DnOk.look {m : Nat} {x : Dn} (h : DnOk m x) : lookW (encW x.1) := lookW_of h.l1 h.l2
theorem DnOk.wg {m : Nat} {x : Dn} (h : DnOk m x) : WgOk m x.1 := isW_ok h.w h.look
theorem dVal_neg : dNeg (.int 1) = .ok (.int (-1)) := rfl
theorem F_is_done_eq {m : Nat} {x : Dn} (h : DnOk m x) : F_is_done [.int m, encX x] = .ok (.bool true) := by
  have k1 : F_is_weighing [.int m, encW x.1] = .ok (.bool true) := by
    rw [F_is_weighing_eq m (encW x.1) (.inl ⟨sh_up (encW_sh x.1) (by decide), fun xs e ys hy => Nat.le_trans ((h.look.2 xs e).2 ys hy) (by decide)⟩), h.w]
  have k2 : F_is_among [.int x.2, .int (-1), .int 1] = .ok (.bool true) := by
    rw [F_is_among_eq _ (by simp [tyD])]
    simp [amongB, h.lo, h.hi]
  have q1 : decide ((((0 : Nat) + 1 + 1 : Nat) : Int) = 2) = true := by decide
  unfold F_is_done g_is_done
  simp only [dIx_t0, dIx_t1, dIx_l0, dIx_l1, toItems, itemsOf, runF, runL, startE, endF, endL, R.bind_ok, R.bind_exc, R.bind_stuck, gSeq, gIf, gSet, gOwn, gRet, gRetL, gRetO, gDrop, gTgt, gT, gsC, gsN, gN, gFor, gApp, gExt, gFrz, gNil, gExc, eVar, eC, e1, e2, eA, aNil, aCons, eTup, eLst, eCall, lCall, listR, eChain, tV, tAndD, tOrD, tNotD, eAnd, eOr, eNot, eIf, eL, lDisp, lList, lRep, oNone, oSome, eSl, iSeq, iRng1, iRng2, iZipD, iEnumD, iRevD, lListRange, lLc, eSorted, eSortSet, eLenSet, eBor, tBor, tYesD, noE, toB, dCmp, dSub, dNeg, dInt, dLen, dIs, dIsNot, List.map_cons, List.map_nil, List.length_cons, List.length_nil, Nat.reduceAdd, Nat.reduceSub, Nat.reduceLeDiff, List.replicate, List.cons_append, List.nil_append, List.append_nil, List.getElem?_cons_zero, List.getElem?_cons_succ, List.set_cons_zero, List.set_cons_succ, if_true, if_false, reduceIte, Bool.not_true, Bool.not_false, Bool.false_eq_true, reduceCtorEq, encX, isi_tuple (.tuple [encW x.1, .int x.2]) (by simp [tyD]), dNe_int, q1, k1, k2, Int.reduceNeg]
theorem done_loop {m : Nat} : ∀ (ds : List Dn) (s1 s2 : PL.Slot noObj), (∀ x ∈ ds, DnOk m x) → ∃ t2, loopF (gN 2) g_need_done_L1 (ds.map encX) [.val (.int m), s1, s2] = .ok (.nx, [.val (.int m), s1, t2])
  | [], s1, s2, _ => ⟨s2, rfl⟩
  | x :: ds, s1, s2, h => by
    obtain ⟨t2, e⟩ := done_loop ds s1 (.val (encX x)) fun y hy => h y (List.mem_cons_of_mem _ hy)
    refine ⟨t2, ?_⟩
    rw [List.map_cons]
    unfold loopF g_need_done_L1
    unfold g_need_done_L1 at e
    simp only [dIx_t0, dIx_t1, dIx_l0, dIx_l1, toItems, itemsOf, runF, runL, startE, endF, endL, R.bind_ok, R.bind_exc, R.bind_stuck, gSeq, gIf, gSet, gOwn, gRet, gRetL, gRetO, gDrop, gTgt, gT, gsC, gsN, gN, gFor, gApp, gExt, gFrz, gNil, gExc, eVar, eC, e1, e2, eA, aNil, aCons, eTup, eLst, eCall, lCall, listR, eChain, tV, tAndD, tOrD, tNotD, eAnd, eOr, eNot, eIf, eL, lDisp, lList, lRep, oNone, oSome, eSl, iSeq, iRng1, iRng2, iZipD, iEnumD, iRevD, lListRange, lLc, eSorted, eSortSet, eLenSet, eBor, tBor, tYesD, noE, toB, dCmp, dSub, dNeg, dInt, dLen, dIs, dIsNot, List.map_cons, List.map_nil, List.length_cons, List.length_nil, Nat.reduceAdd, Nat.reduceSub, Nat.reduceLeDiff, List.replicate, List.cons_append, List.nil_append, List.append_nil, List.getElem?_cons_zero, List.getElem?_cons_succ, List.set_cons_zero, List.set_cons_succ, if_true, if_false, reduceIte, Bool.not_true, Bool.not_false, Bool.false_eq_true, reduceCtorEq, F_is_done_eq (h x (List.mem_cons_self ..))]
    exact e
theorem F_need_done_eq {m : Nat} {ds : List Dn} (h : ∀ x ∈ ds, DnOk m x) (hl : ds.length ≤ 20) : F_need_done [.int m, .list (ds.map encX)] = .ok .none := by
  obtain ⟨t2, e⟩ := done_loop ds (.val (.list (ds.map encX))) .no h
  have q2 : dGt (.int ((ds.length : Nat) : Int)) (.int 20) = .ok (.bool false) := by
    show R.ok (PyData.bool (decide ((20 : Int) < ((ds.length : Nat) : Int)))) = _
    rw [decide_eq_false (by omega)]
  unfold F_need_done g_need_done
  simp only [dIx_t0, dIx_t1, dIx_l0, dIx_l1, toItems, itemsOf, runF, runL, startE, endF, endL, R.bind_ok, R.bind_exc, R.bind_stuck, gSeq, gIf, gSet, gOwn, gRet, gRetL, gRetO, gDrop, gTgt, gT, gsC, gsN, gN, gFor, gApp, gExt, gFrz, gNil, gExc, eVar, eC, e1, e2, eA, aNil, aCons, eTup, eLst, eCall, lCall, listR, eChain, tV, tAndD, tOrD, tNotD, eAnd, eOr, eNot, eIf, eL, lDisp, lList, lRep, oNone, oSome, eSl, iSeq, iRng1, iRng2, iZipD, iEnumD, iRevD, lListRange, lLc, eSorted, eSortSet, eLenSet, eBor, tBor, tYesD, noE, toB, dCmp, dSub, dNeg, dInt, dLen, dIs, dIsNot, List.map_cons, List.map_nil, List.length_cons, List.length_nil, Nat.reduceAdd, Nat.reduceSub, Nat.reduceLeDiff, List.replicate, List.cons_append, List.nil_append, List.append_nil, List.getElem?_cons_zero, List.getElem?_cons_succ, List.set_cons_zero, List.set_cons_succ, if_true, if_false, reduceIte, Bool.not_true, Bool.not_false, Bool.false_eq_true, reduceCtorEq, isi_list (.list (ds.map encX)) (by simp [tyD]), List.length_map, q2, e]
theorem open_1 {m : Nat} {ds : List Dn} (h : ∀ x ∈ ds, DnOk m x) (hl : ds.length ≤ 20) {c : List Int} (hc : CaseOk m c) (s0 s1 : PL.Slot noObj) : c_still_open_1 [s0, s1, .val (.list (ds.map encX)), .val (encC c), .no, .no] = .ok (ds.map fun x => .bool (decide (cm x.1 c = x.2))) := by
  unfold c_still_open_1
  simp only [dIx_t0, dIx_t1, dIx_l0, dIx_l1, toItems, itemsOf, runF, runL, startE, endF, endL, R.bind_ok, R.bind_exc, R.bind_stuck, gSeq, gIf, gSet, gOwn, gRet, gRetL, gRetO, gDrop, gTgt, gT, gsC, gsN, gN, gFor, gApp, gExt, gFrz, gNil, gExc, eVar, eC, e1, e2, eA, aNil, aCons, eTup, eLst, eCall, lCall, listR, eChain, tV, tAndD, tOrD, tNotD, eAnd, eOr, eNot, eIf, eL, lDisp, lList, lRep, oNone, oSome, eSl, iSeq, iRng1, iRng2, iZipD, iEnumD, iRevD, lListRange, lLc, eSorted, eSortSet, eLenSet, eBor, tBor, tYesD, noE, toB, dCmp, dSub, dNeg, dInt, dLen, dIs, dIsNot, List.map_cons, List.map_nil, List.length_cons, List.length_nil, Nat.reduceAdd, Nat.reduceSub, Nat.reduceLeDiff, List.replicate, List.cons_append, List.nil_append, List.append_nil, List.getElem?_cons_zero, List.getElem?_cons_succ, List.set_cons_zero, List.set_cons_succ, if_true, if_false, reduceIte, Bool.not_true, Bool.not_false, Bool.false_eq_true, reduceCtorEq]
  rw [if_pos ⟨by rw [List.length_map]; omega, rfl⟩]
  refine noE_of (each_map' fun x hx => ?_)
  unfold lcStep
  simp only [dIx_t0, dIx_t1, dIx_l0, dIx_l1, toItems, itemsOf, runF, runL, startE, endF, endL, R.bind_ok, R.bind_exc, R.bind_stuck, gSeq, gIf, gSet, gOwn, gRet, gRetL, gRetO, gDrop, gTgt, gT, gsC, gsN, gN, gFor, gApp, gExt, gFrz, gNil, gExc, eVar, eC, e1, e2, eA, aNil, aCons, eTup, eLst, eCall, lCall, listR, eChain, tV, tAndD, tOrD, tNotD, eAnd, eOr, eNot, eIf, eL, lDisp, lList, lRep, oNone, oSome, eSl, iSeq, iRng1, iRng2, iZipD, iEnumD, iRevD, lListRange, lLc, eSorted, eSortSet, eLenSet, eBor, tBor, tYesD, noE, toB, dCmp, dSub, dNeg, dInt, dLen, dIs, dIsNot, List.map_cons, List.map_nil, List.length_cons, List.length_nil, Nat.reduceAdd, Nat.reduceSub, Nat.reduceLeDiff, List.replicate, List.cons_append, List.nil_append, List.append_nil, List.getElem?_cons_zero, List.getElem?_cons_succ, List.set_cons_zero, List.set_cons_succ, if_true, if_false, reduceIte, Bool.not_true, Bool.not_false, Bool.false_eq_true, reduceCtorEq, wipeE, encX, came_eq (h x hx).wg hc, dEq_int]
theorem F_still_open_eq {m : Nat} (hm : Many m) {cs : List (List Int)} (hc : CasesOk m cs) {ds : List Dn} (h : ∀ x ∈ ds, DnOk m x) (hl : ds.length ≤ 20) : F_still_open [.int m, .list (cs.map encC), .list (ds.map encX)] = .ok ((openI ds cs).map encC) := by
  have key : c_still_open_2 [.val (.int m), .val (.list (cs.map encC)), .val (.list (ds.map encX)), .no, .no, .no] = .ok ((openI ds cs).map encC) := by
    unfold c_still_open_2
    simp only [dIx_t0, dIx_t1, dIx_l0, dIx_l1, toItems, itemsOf, runF, runL, startE, endF, endL, R.bind_ok, R.bind_exc, R.bind_stuck, gSeq, gIf, gSet, gOwn, gRet, gRetL, gRetO, gDrop, gTgt, gT, gsC, gsN, gN, gFor, gApp, gExt, gFrz, gNil, gExc, eVar, eC, e1, e2, eA, aNil, aCons, eTup, eLst, eCall, lCall, listR, eChain, tV, tAndD, tOrD, tNotD, eAnd, eOr, eNot, eIf, eL, lDisp, lList, lRep, oNone, oSome, eSl, iSeq, iRng1, iRng2, iZipD, iEnumD, iRevD, lListRange, lLc, eSorted, eSortSet, eLenSet, eBor, tBor, tYesD, noE, toB, dCmp, dSub, dNeg, dInt, dLen, dIs, dIsNot, List.map_cons, List.map_nil, List.length_cons, List.length_nil, Nat.reduceAdd, Nat.reduceSub, Nat.reduceLeDiff, List.replicate, List.cons_append, List.nil_append, List.append_nil, List.getElem?_cons_zero, List.getElem?_cons_succ, List.set_cons_zero, List.set_cons_succ, if_true, if_false, reduceIte, Bool.not_true, Bool.not_false, Bool.false_eq_true, reduceCtorEq]
    rw [if_pos ⟨by have := hc.le; rw [List.length_map]; omega, rfl⟩]
    refine noE_of (each_enc fun c hcm => ?_)
    have o1 := open_1 h hl (hc.ok c hcm) (.val (.int m)) (.val (.list (cs.map encC)))
    have da : dAll [.list (ds.map fun x => PyData.bool (decide (cm x.1 c = x.2)))] = .ok (.bool (ds.all fun x => decide (cm x.1 c = x.2))) := map_bool_all _ ds
    unfold lcStep
    simp only [dIx_t0, dIx_t1, dIx_l0, dIx_l1, toItems, itemsOf, runF, runL, startE, endF, endL, R.bind_ok, R.bind_exc, R.bind_stuck, gSeq, gIf, gSet, gOwn, gRet, gRetL, gRetO, gDrop, gTgt, gT, gsC, gsN, gN, gFor, gApp, gExt, gFrz, gNil, gExc, eVar, eC, e1, e2, eA, aNil, aCons, eTup, eLst, eCall, lCall, listR, eChain, tV, tAndD, tOrD, tNotD, eAnd, eOr, eNot, eIf, eL, lDisp, lList, lRep, oNone, oSome, eSl, iSeq, iRng1, iRng2, iZipD, iEnumD, iRevD, lListRange, lLc, eSorted, eSortSet, eLenSet, eBor, tBor, tYesD, noE, toB, dCmp, dSub, dNeg, dInt, dLen, dIs, dIsNot, List.map_cons, List.map_nil, List.length_cons, List.length_nil, Nat.reduceAdd, Nat.reduceSub, Nat.reduceLeDiff, List.replicate, List.cons_append, List.nil_append, List.append_nil, List.getElem?_cons_zero, List.getElem?_cons_succ, List.set_cons_zero, List.set_cons_succ, if_true, if_false, reduceIte, Bool.not_true, Bool.not_false, Bool.false_eq_true, reduceCtorEq, wipeE, o1, da]
    cases (ds.all fun x => decide (cm x.1 c = x.2)) <;> simp only [dIx_t0, dIx_t1, dIx_l0, dIx_l1, toItems, itemsOf, runF, runL, startE, endF, endL, R.bind_ok, R.bind_exc, R.bind_stuck, gSeq, gIf, gSet, gOwn, gRet, gRetL, gRetO, gDrop, gTgt, gT, gsC, gsN, gN, gFor, gApp, gExt, gFrz, gNil, gExc, eVar, eC, e1, e2, eA, aNil, aCons, eTup, eLst, eCall, lCall, listR, eChain, tV, tAndD, tOrD, tNotD, eAnd, eOr, eNot, eIf, eL, lDisp, lList, lRep, oNone, oSome, eSl, iSeq, iRng1, iRng2, iZipD, iEnumD, iRevD, lListRange, lLc, eSorted, eSortSet, eLenSet, eBor, tBor, tYesD, noE, toB, dCmp, dSub, dNeg, dInt, dLen, dIs, dIsNot, List.map_cons, List.map_nil, List.length_cons, List.length_nil, Nat.reduceAdd, Nat.reduceSub, Nat.reduceLeDiff, List.replicate, List.cons_append, List.nil_append, List.append_nil, List.getElem?_cons_zero, List.getElem?_cons_succ, List.set_cons_zero, List.set_cons_succ, if_true, if_false, reduceIte, Bool.not_true, Bool.not_false, Bool.false_eq_true, reduceCtorEq]
  unfold F_still_open g_still_open
  simp only [dIx_t0, dIx_t1, dIx_l0, dIx_l1, toItems, itemsOf, runF, runL, startE, endF, endL, R.bind_ok, R.bind_exc, R.bind_stuck, gSeq, gIf, gSet, gOwn, gRet, gRetL, gRetO, gDrop, gTgt, gT, gsC, gsN, gN, gFor, gApp, gExt, gFrz, gNil, gExc, eVar, eC, e1, e2, eA, aNil, aCons, eTup, eLst, eCall, lCall, listR, eChain, tV, tAndD, tOrD, tNotD, eAnd, eOr, eNot, eIf, eL, lDisp, lList, lRep, oNone, oSome, eSl, iSeq, iRng1, iRng2, iZipD, iEnumD, iRevD, lListRange, lLc, eSorted, eSortSet, eLenSet, eBor, tBor, tYesD, noE, toB, dCmp, dSub, dNeg, dInt, dLen, dIs, dIsNot, List.map_cons, List.map_nil, List.length_cons, List.length_nil, Nat.reduceAdd, Nat.reduceSub, Nat.reduceLeDiff, List.replicate, List.cons_append, List.nil_append, List.append_nil, List.getElem?_cons_zero, List.getElem?_cons_succ, List.set_cons_zero, List.set_cons_succ, if_true, if_false, reduceIte, Bool.not_true, Bool.not_false, Bool.false_eq_true, reduceCtorEq, F_need_cases_ok (many25 hm) hc, F_need_done_eq h hl, key]
/-! ### Search(many, cases) -/
theorem init_1 {m : Nat} {w : Wg} (hw : WgOk m w) {cs : List (List Int)} (hc : ∀ c ∈ cs, CaseOk m c) (hl : cs.length ≤ 100) (s0 : PL.Slot selfB) (s1 : PL.Slot selfB) : c_m___init___1 [s0, s1, .val (.list (cs.map encC)), .val (encW w), .no] = .ok ((rowOf cs w).map PyData.int) := by
  unfold c_m___init___1
  simp only [dIx_t0, dIx_t1, dIx_l0, dIx_l1, toItems, itemsOf, runF, runL, startE, endF, endL, R.bind_ok, R.bind_exc, R.bind_stuck, gSeq, gIf, gSet, gOwn, gRet, gRetL, gRetO, gDrop, gTgt, gT, gsC, gsN, gN, gFor, gApp, gExt, gFrz, gNil, gExc, eVar, eC, e1, e2, eA, aNil, aCons, eTup, eLst, eCall, lCall, listR, eChain, tV, tAndD, tOrD, tNotD, eAnd, eOr, eNot, eIf, eL, lDisp, lList, lRep, oNone, oSome, eSl, iSeq, iRng1, iRng2, iZipD, iEnumD, iRevD, lListRange, lLc, eSorted, eSortSet, eLenSet, eBor, tBor, tYesD, noE, toB, dCmp, dSub, dNeg, dInt, dLen, dIs, dIsNot, List.map_cons, List.map_nil, List.length_cons, List.length_nil, Nat.reduceAdd, Nat.reduceSub, Nat.reduceLeDiff, List.replicate, List.cons_append, List.nil_append, List.append_nil, List.getElem?_cons_zero, List.getElem?_cons_succ, List.set_cons_zero, List.set_cons_succ, if_true, if_false, reduceIte, Bool.not_true, Bool.not_false, Bool.false_eq_true, reduceCtorEq]
  rw [if_pos ⟨by rw [List.length_map]; omega, rfl⟩]
  unfold rowOf
  rw [List.map_map]
  refine noE_of (each_map' fun c h => ?_)
  unfold lcStep
  simp only [dIx_t0, dIx_t1, dIx_l0, dIx_l1, toItems, itemsOf, runF, runL, startE, endF, endL, R.bind_ok, R.bind_exc, R.bind_stuck, gSeq, gIf, gSet, gOwn, gRet, gRetL, gRetO, gDrop, gTgt, gT, gsC, gsN, gN, gFor, gApp, gExt, gFrz, gNil, gExc, eVar, eC, e1, e2, eA, aNil, aCons, eTup, eLst, eCall, lCall, listR, eChain, tV, tAndD, tOrD, tNotD, eAnd, eOr, eNot, eIf, eL, lDisp, lList, lRep, oNone, oSome, eSl, iSeq, iRng1, iRng2, iZipD, iEnumD, iRevD, lListRange, lLc, eSorted, eSortSet, eLenSet, eBor, tBor, tYesD, noE, toB, dCmp, dSub, dNeg, dInt, dLen, dIs, dIsNot, List.map_cons, List.map_nil, List.length_cons, List.length_nil, Nat.reduceAdd, Nat.reduceSub, Nat.reduceLeDiff, List.replicate, List.cons_append, List.nil_append, List.append_nil, List.getElem?_cons_zero, List.getElem?_cons_succ, List.set_cons_zero, List.set_cons_succ, if_true, if_false, reduceIte, Bool.not_true, Bool.not_false, Bool.false_eq_true, reduceCtorEq, wipeE, came_eq hw (hc c h)]
  rfl
theorem newS_eq {m : Nat} (hm : Many m) {cs : List (List Int)} (hc : ∀ c ∈ cs, CaseOk m c) (hl : cs.length ≤ 100) : newS [.int m, .list (cs.map encC)] = .ok (zS cs (Ws m) (rowsW cs (Ws m))) := by
  have k2 : f2_init (initE 5 .no (.int m) (.list (cs.map encC))) = .ok (.list ((Ws m).map encW)) := by
    unfold f2_init initE
    simp only [dIx_t0, dIx_t1, dIx_l0, dIx_l1, toItems, itemsOf, runF, runL, startE, endF, endL, R.bind_ok, R.bind_exc, R.bind_stuck, gSeq, gIf, gSet, gOwn, gRet, gRetL, gRetO, gDrop, gTgt, gT, gsC, gsN, gN, gFor, gApp, gExt, gFrz, gNil, gExc, eVar, eC, e1, e2, eA, aNil, aCons, eTup, eLst, eCall, lCall, listR, eChain, tV, tAndD, tOrD, tNotD, eAnd, eOr, eNot, eIf, eL, lDisp, lList, lRep, oNone, oSome, eSl, iSeq, iRng1, iRng2, iZipD, iEnumD, iRevD, lListRange, lLc, eSorted, eSortSet, eLenSet, eBor, tBor, tYesD, noE, toB, dCmp, dSub, dNeg, dInt, dLen, dIs, dIsNot, List.map_cons, List.map_nil, List.length_cons, List.length_nil, Nat.reduceAdd, Nat.reduceSub, Nat.reduceLeDiff, List.replicate, List.cons_append, List.nil_append, List.append_nil, List.getElem?_cons_zero, List.getElem?_cons_succ, List.set_cons_zero, List.set_cons_succ, if_true, if_false, reduceIte, Bool.not_true, Bool.not_false, Bool.false_eq_true, reduceCtorEq, leading_eq hm]
  have k3 : f3_init (initE 5 (.obj (selfDat (.list ((Ws m).map encW)))) (.int m) (.list (cs.map encC))) = .ok ((rowsW cs (Ws m)).map lstI) := by
    unfold f3_init initE c_m___init___2 rowsW
    simp only [dIx_t0, dIx_t1, dIx_l0, dIx_l1, toItems, itemsOf, runF, runL, startE, endF, endL, R.bind_ok, R.bind_exc, R.bind_stuck, gSeq, gIf, gSet, gOwn, gRet, gRetL, gRetO, gDrop, gTgt, gT, gsC, gsN, gN, gFor, gApp, gExt, gFrz, gNil, gExc, eVar, eC, e1, e2, eA, aNil, aCons, eTup, eLst, eCall, lCall, listR, eChain, tV, tAndD, tOrD, tNotD, eAnd, eOr, eNot, eIf, eL, lDisp, lList, lRep, oNone, oSome, eSl, iSeq, iRng1, iRng2, iZipD, iEnumD, iRevD, lListRange, lLc, eSorted, eSortSet, eLenSet, eBor, tBor, tYesD, noE, toB, dCmp, dSub, dNeg, dInt, dLen, dIs, dIsNot, List.map_cons, List.map_nil, List.length_cons, List.length_nil, Nat.reduceAdd, Nat.reduceSub, Nat.reduceLeDiff, List.replicate, List.cons_append, List.nil_append, List.append_nil, List.getElem?_cons_zero, List.getElem?_cons_succ, List.set_cons_zero, List.set_cons_succ, if_true, if_false, reduceIte, Bool.not_true, Bool.not_false, Bool.false_eq_true, reduceCtorEq, ePans]
    rw [List.map_map, if_pos ⟨by have := (Ws_len hm).2; rw [List.length_map]; omega, rfl⟩]
    refine noE_of (each_map' fun w h => ?_)
    have i1 := init_1 (wsOk hm h) hc hl (.obj (selfDat (.list ((Ws m).map encW)))) (.val (.int m))
    unfold lcStep
    simp only [dIx_t0, dIx_t1, dIx_l0, dIx_l1, toItems, itemsOf, runF, runL, startE, endF, endL, R.bind_ok, R.bind_exc, R.bind_stuck, gSeq, gIf, gSet, gOwn, gRet, gRetL, gRetO, gDrop, gTgt, gT, gsC, gsN, gN, gFor, gApp, gExt, gFrz, gNil, gExc, eVar, eC, e1, e2, eA, aNil, aCons, eTup, eLst, eCall, lCall, listR, eChain, tV, tAndD, tOrD, tNotD, eAnd, eOr, eNot, eIf, eL, lDisp, lList, lRep, oNone, oSome, eSl, iSeq, iRng1, iRng2, iZipD, iEnumD, iRevD, lListRange, lLc, eSorted, eSortSet, eLenSet, eBor, tBor, tYesD, noE, toB, dCmp, dSub, dNeg, dInt, dLen, dIs, dIsNot, List.map_cons, List.map_nil, List.length_cons, List.length_nil, Nat.reduceAdd, Nat.reduceSub, Nat.reduceLeDiff, List.replicate, List.cons_append, List.nil_append, List.append_nil, List.getElem?_cons_zero, List.getElem?_cons_succ, List.set_cons_zero, List.set_cons_succ, if_true, if_false, reduceIte, Bool.not_true, Bool.not_false, Bool.false_eq_true, reduceCtorEq, wipeE, i1]
    rfl
  unfold newS newD
  dsimp only
  rw [k2, R.bind_ok, k3, R.bind_ok, rowsOf_map]
  show R.ok (selfD _ _ (.list ((rowsW cs (Ws m)).map lstI))) = R.ok (zS cs (Ws m) (rowsW cs (Ws m)))
  rfl
theorem srch_of {m : Nat} (hm : Many m) {cs : List (List Int)} (hc : ∀ c ∈ cs, CaseOk m c) (hl : cs.length ≤ 12) : Srch m cs.length cs (Ws m) :=
  ⟨hm, rfl, hl, hc, fun w hw => ⟨(goodWs hm w hw).1, lookW_of (goodWs hm w hw).2.2.1 (goodWs hm w hw).2.2.2⟩, Nat.le_trans (Ws_len hm).2 (by decide)⟩
end W

set_option Elab.async false
set_option linter.all false
set_option maxRecDepth 100000
set_option maxHeartbeats 1000000
namespace W
open PySem PL
/-! ### told, least -/
abbrev sNone : Str := Str.ofString "none"
abbrev sAlike : Str := Str.ofString "alike"
abbrev sPlan : Str := Str.ofString "plan"
def NoAl (m : Nat) (os : List (List Int)) : Prop := ∀ (i k : Nat) (a b : List Int), i < k → os[i]? = some a → os[k]? = some b → ∃ w ∈ Ws m, cm w a ≠ cm w b
theorem col_eq {os : List (List Int)} {ws : List Wg} {i : Nat} {a : List Int} (h : os[i]? = some a) : colI (rowsW os ws) i = ws.map fun w => cm w a := by
  unfold colI rowsW
  rw [List.map_map]
  refine List.map_congr_left fun w _ => ?_
  rw [Function.comp, rowOf, List.getD_eq_getElem?_getD, List.getElem?_map, h]
  rfl
structure PlanIs (m : Nat) (os : List (List Int)) (L : Nat) (q : Pl) (h : D) : Prop where
  noal : NoAl m os
  least : Least (rowsW os (Ws m)) os.length L
  valid : ValidP m os q
  pin : PlIn (Ws m) q
  hgt : hgt q = L
  hold : (L = 0 ∧ h = .none) ∨ (0 < L ∧ HoldIs (Ws m) (L - 1) os h)
theorem told_least {m : Nat} (hm : Many m) {cs : List (List Int)} (hc : CasesOk m cs) {ds : List Dn} (hd : ∀ x ∈ ds, DnOk m x) (hl : ds.length ≤ 20) :
    (openI ds cs = [] ∧ F_told [.int m, .list (cs.map encC), .list (ds.map encX)] = .ok (.tuple [.str sNone]) ∧ F_least [.int m, .list (cs.map encC), .list (ds.map encX)] = .ok .none) ∨
    (∃ (i k : Nat) (a b : List Int), i < k ∧ (openI ds cs)[i]? = some a ∧ (openI ds cs)[k]? = some b ∧ (∀ w ∈ Ws m, cm w a = cm w b) ∧ F_told [.int m, .list (cs.map encC), .list (ds.map encX)] = .ok (.tuple [.str sAlike, encC a, encC b]) ∧ F_least [.int m, .list (cs.map encC), .list (ds.map encX)] = .ok .none) ∨
    (openI ds cs ≠ [] ∧ ∃ (L : Nat) (q : Pl) (h : D), PlanIs m (openI ds cs) L q h ∧ F_told [.int m, .list (cs.map encC), .list (ds.map encX)] = .ok (.tuple [.str sPlan, encP q, h]) ∧ F_least [.int m, .list (cs.map encC), .list (ds.map encX)] = .ok (.int (L : Nat))) := by
  have so := F_still_open_eq hm hc hd hl
  have hos : ∀ c ∈ openI ds cs, CaseOk m c := fun c h => hc.ok c (List.mem_filter.mp h).1
  have hol : (openI ds cs).length ≤ 12 := Nat.le_trans (List.length_filter_le _ _) hc.le
  generalize openI ds cs = os at so hos hol ⊢
  have S := srch_of hm hos hol
  have ns := newS_eq hm hos (by omega)
  have hrows := rows_len (cs := os) (ws := Ws m) (n := os.length) rfl
  have self := self_zS os (Ws m) (rowsW os (Ws m))
  have rl : (rowsW os (Ws m)).length ≤ 1000 := by
    have := (Ws_len hm).2
    simp only [rowsW, List.length_map]
    omega
  by_cases he : os = []
  · left
    subst he
    have d0 : dEq (.list []) (.list []) = .ok (.bool true) := dEq_nil (cs := [])
    refine ⟨rfl, ?_, ?_⟩
    · unfold F_told g_told
      simp only [dIx_t0, dIx_t1, dIx_l0, dIx_l1, toItems, itemsOf, runF, runL, startE, endF, endL, R.bind_ok, R.bind_exc, R.bind_stuck, gSeq, gIf, gSet, gOwn, gRet, gRetL, gRetO, gDrop, gTgt, gT, gsC, gsN, gN, gFor, gApp, gExt, gFrz, gNil, gExc, eVar, eC, e1, e2, eA, aNil, aCons, eTup, eLst, eCall, lCall, listR, eChain, tV, tAndD, tOrD, tNotD, eAnd, eOr, eNot, eIf, eL, lDisp, lList, lRep, oNone, oSome, eSl, iSeq, iRng1, iRng2, iZipD, iEnumD, iRevD, lListRange, lLc, eSorted, eSortSet, eLenSet, eBor, tBor, tYesD, noE, toB, dCmp, dSub, dNeg, dInt, dLen, dIs, dIsNot, List.map_cons, List.map_nil, List.length_cons, List.length_nil, Nat.reduceAdd, Nat.reduceSub, Nat.reduceLeDiff, List.replicate, List.cons_append, List.nil_append, List.append_nil, List.getElem?_cons_zero, List.getElem?_cons_succ, List.set_cons_zero, List.set_cons_succ, if_true, if_false, reduceIte, Bool.not_true, Bool.not_false, Bool.false_eq_true, reduceCtorEq, so, d0]
    · unfold F_least g_least
      simp only [dIx_t0, dIx_t1, dIx_l0, dIx_l1, toItems, itemsOf, runF, runL, startE, endF, endL, R.bind_ok, R.bind_exc, R.bind_stuck, gSeq, gIf, gSet, gOwn, gRet, gRetL, gRetO, gDrop, gTgt, gT, gsC, gsN, gN, gFor, gApp, gExt, gFrz, gNil, gExc, eVar, eC, e1, e2, eA, aNil, aCons, eTup, eLst, eCall, lCall, listR, eChain, tV, tAndD, tOrD, tNotD, eAnd, eOr, eNot, eIf, eL, lDisp, lList, lRep, oNone, oSome, eSl, iSeq, iRng1, iRng2, iZipD, iEnumD, iRevD, lListRange, lLc, eSorted, eSortSet, eLenSet, eBor, tBor, tYesD, noE, toB, dCmp, dSub, dNeg, dInt, dLen, dIs, dIsNot, List.map_cons, List.map_nil, List.length_cons, List.length_nil, Nat.reduceAdd, Nat.reduceSub, Nat.reduceLeDiff, List.replicate, List.cons_append, List.nil_append, List.append_nil, List.getElem?_cons_zero, List.getElem?_cons_succ, List.set_cons_zero, List.set_cons_succ, if_true, if_false, reduceIte, Bool.not_true, Bool.not_false, Bool.false_eq_true, reduceCtorEq, so, d0]
  · right
    have ie : os.isEmpty = false := by cases os with
      | nil => exact absurd rfl he
      | cons _ _ => rfl
    rcases F_alike_eq (cs := os) (ws := Ws m) hrows rl rfl hol with ⟨al, ap⟩ | ⟨i, k, a, b, h1, h2, h3, h4, h5, al⟩
    · right
      have noal : NoAl m os := fun i k a b hik ha hb => by
        apply Classical.byContradiction
        intro z
        refine ap i k hik (List.getElem?_eq_some_iff.mp hb).1 ?_
        rw [col_eq ha, col_eq hb]
        refine List.map_congr_left fun w hw => ?_
        apply Classical.byContradiction
        exact fun y => z ⟨w, hw, y⟩
      obtain ⟨L, hL⟩ := least_ex hol (apart_of ap)
      have fl := F_least_eq (cs := os) (ws := Ws m) rfl hol hrows hL
      have L11 := hL.le
      have fne : fullI os.length ≠ [] := fun z => he (by
        have := congrArg List.length z
        simpa [fullI] using this)
      obtain ⟨q, p1, p2, p3, p4, p5⟩ := F_plan_eq S L 30 (fullI os.length) (by omega) (by omega) (full_pl hol) fne hL.fit
      rw [pick_full] at p3
      have hq : hgt q = L := by
        rcases Nat.lt_or_ge (hgt q) L with h | h
        · rw [hL.lt _ h] at p4
          cases p4
        · omega
      have dn : dIsNot .none .none = .ok (.bool false) := rfl
      have rq : (-100000 ≤ (os.length : Int) ∧ (os.length : Int) ≤ 100000) := by omega
      have leq : F_least [.int m, .list (cs.map encC), .list (ds.map encX)] = .ok (.int (L : Nat)) := by
        unfold F_least g_least
        simp only [dIx_t0, dIx_t1, dIx_l0, dIx_l1, toItems, itemsOf, runF, runL, startE, endF, endL, R.bind_ok, R.bind_exc, R.bind_stuck, gSeq, gIf, gSet, gOwn, gRet, gRetL, gRetO, gDrop, gTgt, gT, gsC, gsN, gN, gFor, gApp, gExt, gFrz, gNil, gExc, eVar, eC, e1, e2, eA, aNil, aCons, eTup, eLst, eCall, lCall, listR, eChain, tV, tAndD, tOrD, tNotD, eAnd, eOr, eNot, eIf, eL, lDisp, lList, lRep, oNone, oSome, eSl, iSeq, iRng1, iRng2, iZipD, iEnumD, iRevD, lListRange, lLc, eSorted, eSortSet, eLenSet, eBor, tBor, tYesD, noE, toB, dCmp, dSub, dNeg, dInt, dLen, dIs, dIsNot, List.map_cons, List.map_nil, List.length_cons, List.length_nil, Nat.reduceAdd, Nat.reduceSub, Nat.reduceLeDiff, List.replicate, List.cons_append, List.nil_append, List.append_nil, List.getElem?_cons_zero, List.getElem?_cons_succ, List.set_cons_zero, List.set_cons_succ, if_true, if_false, reduceIte, Bool.not_true, Bool.not_false, Bool.false_eq_true, reduceCtorEq, so, dEq_nil, ie, ns, eMeth, self, al, fl]
      rcases Nat.eq_zero_or_pos L with hz | hp
      · subst hz
        have g0 : dGt (.int ((0 : Nat) : Int)) (.int 0) = .ok (.bool false) := rfl
        refine ⟨he, 0, q, .none, ⟨noal, hL, p3, p5, hq, .inl ⟨rfl, rfl⟩⟩, ?_, leq⟩
        unfold F_told g_told
        simp only [dIx_t0, dIx_t1, dIx_l0, dIx_l1, toItems, itemsOf, runF, runL, startE, endF, endL, R.bind_ok, R.bind_exc, R.bind_stuck, gSeq, gIf, gSet, gOwn, gRet, gRetL, gRetO, gDrop, gTgt, gT, gsC, gsN, gN, gFor, gApp, gExt, gFrz, gNil, gExc, eVar, eC, e1, e2, eA, aNil, aCons, eTup, eLst, eCall, lCall, listR, eChain, tV, tAndD, tOrD, tNotD, eAnd, eOr, eNot, eIf, eL, lDisp, lList, lRep, oNone, oSome, eSl, iSeq, iRng1, iRng2, iZipD, iEnumD, iRevD, lListRange, lLc, eSorted, eSortSet, eLenSet, eBor, tBor, tYesD, noE, toB, dCmp, dSub, dNeg, dInt, dLen, dIs, dIsNot, List.map_cons, List.map_nil, List.length_cons, List.length_nil, Nat.reduceAdd, Nat.reduceSub, Nat.reduceLeDiff, List.replicate, List.cons_append, List.nil_append, List.append_nil, List.getElem?_cons_zero, List.getElem?_cons_succ, List.set_cons_zero, List.set_cons_succ, if_true, if_false, reduceIte, Bool.not_true, Bool.not_false, Bool.false_eq_true, reduceCtorEq, so, dEq_nil, ie, ns, eMeth, self, al, fl, eTupRange, List.length_map, if_pos rq, tupRange_full, g0, p1]
      · obtain ⟨t, r1, r2⟩ := F_hold_eq S (L - 1) 30 (fullI os.length) (by omega) (by omega) (full_pl hol) (hL.lt _ (by omega))
        rw [pick_full] at r2
        have g0 : dGt (.int ((L : Nat) : Int)) (.int 0) = .ok (.bool true) := by
          show R.ok (PyData.bool (decide ((0 : Int) < ((L : Nat) : Int)))) = _
          rw [decide_eq_true (by omega)]
        have q3 : ((L : Nat) : Int) - 1 = ((L - 1 : Nat) : Int) := by omega
        refine ⟨he, L, q, t, ⟨noal, hL, p3, p5, hq, .inr ⟨hp, r2⟩⟩, ?_, leq⟩
        unfold F_told g_told
        simp only [dIx_t0, dIx_t1, dIx_l0, dIx_l1, toItems, itemsOf, runF, runL, startE, endF, endL, R.bind_ok, R.bind_exc, R.bind_stuck, gSeq, gIf, gSet, gOwn, gRet, gRetL, gRetO, gDrop, gTgt, gT, gsC, gsN, gN, gFor, gApp, gExt, gFrz, gNil, gExc, eVar, eC, e1, e2, eA, aNil, aCons, eTup, eLst, eCall, lCall, listR, eChain, tV, tAndD, tOrD, tNotD, eAnd, eOr, eNot, eIf, eL, lDisp, lList, lRep, oNone, oSome, eSl, iSeq, iRng1, iRng2, iZipD, iEnumD, iRevD, lListRange, lLc, eSorted, eSortSet, eLenSet, eBor, tBor, tYesD, noE, toB, dCmp, dSub, dNeg, dInt, dLen, dIs, dIsNot, List.map_cons, List.map_nil, List.length_cons, List.length_nil, Nat.reduceAdd, Nat.reduceSub, Nat.reduceLeDiff, List.replicate, List.cons_append, List.nil_append, List.append_nil, List.getElem?_cons_zero, List.getElem?_cons_succ, List.set_cons_zero, List.set_cons_succ, if_true, if_false, reduceIte, Bool.not_true, Bool.not_false, Bool.false_eq_true, reduceCtorEq, so, dEq_nil, ie, ns, eMeth, self, al, fl, eTupRange, List.length_map, if_pos rq, tupRange_full, g0, p1, q3, r1]
    · left
      have dn : dIsNot (.tuple [encC a, encC b]) .none = .ok (.bool true) := rfl
      refine ⟨i, k, a, b, h1, h4, h5, ?_, ?_, ?_⟩
      · rw [col_eq h4, col_eq h5] at h3
        intro w hw
        exact List.map_inj_left.mp h3 w hw
      · unfold F_told g_told
        simp only [dIx_t0, dIx_t1, dIx_l0, dIx_l1, toItems, itemsOf, runF, runL, startE, endF, endL, R.bind_ok, R.bind_exc, R.bind_stuck, gSeq, gIf, gSet, gOwn, gRet, gRetL, gRetO, gDrop, gTgt, gT, gsC, gsN, gN, gFor, gApp, gExt, gFrz, gNil, gExc, eVar, eC, e1, e2, eA, aNil, aCons, eTup, eLst, eCall, lCall, listR, eChain, tV, tAndD, tOrD, tNotD, eAnd, eOr, eNot, eIf, eL, lDisp, lList, lRep, oNone, oSome, eSl, iSeq, iRng1, iRng2, iZipD, iEnumD, iRevD, lListRange, lLc, eSorted, eSortSet, eLenSet, eBor, tBor, tYesD, noE, toB, dCmp, dSub, dNeg, dInt, dLen, dIs, dIsNot, List.map_cons, List.map_nil, List.length_cons, List.length_nil, Nat.reduceAdd, Nat.reduceSub, Nat.reduceLeDiff, List.replicate, List.cons_append, List.nil_append, List.append_nil, List.getElem?_cons_zero, List.getElem?_cons_succ, List.set_cons_zero, List.set_cons_succ, if_true, if_false, reduceIte, Bool.not_true, Bool.not_false, Bool.false_eq_true, reduceCtorEq, so, dEq_nil, ie, ns, eMeth, self, al]
      · unfold F_least g_least
        simp only [dIx_t0, dIx_t1, dIx_l0, dIx_l1, toItems, itemsOf, runF, runL, startE, endF, endL, R.bind_ok, R.bind_exc, R.bind_stuck, gSeq, gIf, gSet, gOwn, gRet, gRetL, gRetO, gDrop, gTgt, gT, gsC, gsN, gN, gFor, gApp, gExt, gFrz, gNil, gExc, eVar, eC, e1, e2, eA, aNil, aCons, eTup, eLst, eCall, lCall, listR, eChain, tV, tAndD, tOrD, tNotD, eAnd, eOr, eNot, eIf, eL, lDisp, lList, lRep, oNone, oSome, eSl, iSeq, iRng1, iRng2, iZipD, iEnumD, iRevD, lListRange, lLc, eSorted, eSortSet, eLenSet, eBor, tBor, tYesD, noE, toB, dCmp, dSub, dNeg, dInt, dLen, dIs, dIsNot, List.map_cons, List.map_nil, List.length_cons, List.length_nil, Nat.reduceAdd, Nat.reduceSub, Nat.reduceLeDiff, List.replicate, List.cons_append, List.nil_append, List.append_nil, List.getElem?_cons_zero, List.getElem?_cons_succ, List.set_cons_zero, List.set_cons_succ, if_true, if_false, reduceIte, Bool.not_true, Bool.not_false, Bool.false_eq_true, reduceCtorEq, so, dEq_nil, ie, ns, eMeth, self, al]
end W

set_option Elab.async false
set_option linter.all false
set_option maxRecDepth 100000
set_option maxHeartbeats 1000000
namespace W
open PySem PL
def partsL (w : Wg) (cs : List (List Int)) : List (List (List Int)) := [byW w (-1) cs, byW w 0 cs, byW w 1 cs]
def tryW (f : List (List Int) → Bool) (cs : List (List Int)) (w : Wg) : Bool := !decide (cs ∈ partsL w cs) && (partsL w cs).all f
def fitsL (ws : List Wg) : Nat → List (List Int) → Bool
  | 0, cs => decide (cs.length < 2)
  | n + 1, cs => decide (cs.length < 2) || (!decide (3 ^ (n + 1) < cs.length) && ws.any (tryW (fitsL ws n) cs))
end W

set_option Elab.async false
set_option linter.all false
set_option maxRecDepth 100000
set_option maxHeartbeats 1000000
namespace W
open PySem PL
/-! ### what fits by the law's own is what fits by places -/
theorem pick_sub {cs : List (List Int)} {s p : List Int} (h : p.Sublist s) : pickC cs s = pickC cs p ↔ s = p := by
  constructor
  · intro e
    have : s.length = p.length := by
      have := congrArg List.length e
      simpa [pickC] using this
    exact (h.eq_of_length this.symm).symm
  · exact fun e => by rw [e]
theorem fits_pick {cs : List (List Int)} {ws : List Wg} : ∀ (k : Nat) (s : List Int), In cs.length s → fitsL ws k (pickC cs s) = fitI (rowsW cs ws) k s
  | 0, s, _ => by simp [fitsL, fitI, pickC]
  | k + 1, s, hs => by
    have pl : (pickC cs s).length = s.length := by simp [pickC]
    have key : ∀ w, tryW (fitsL ws k) (pickC cs s) w = tryI (fitI (rowsW cs ws) k) s (rowOf cs w) := fun w => by
      unfold tryW tryI
      have ep : partsL w (pickC cs s) = (partsI (rowOf cs w) s).map (pickC cs) := by
        simp only [partsL, partsI, by_pick hs, List.map_cons, List.map_nil]
      have em : (pickC cs s ∈ (partsI (rowOf cs w) s).map (pickC cs)) ↔ s ∈ partsI (rowOf cs w) s := by
        simp only [partsI, List.map_cons, List.map_nil, List.mem_cons, List.not_mem_nil, or_false, pick_sub (idx_sub s _ _)]
      rw [ep, decide_eq_decide.mpr em, List.all_map]
      congr 1
      simp only [partsI, List.all_cons, List.all_nil, Function.comp, fits_pick k _ (hs.idx _ _)]
    rw [fitsL, fitI, pl]
    congr 2
    unfold rowsW
    rw [List.any_map]
    congr 1
    funext w
    exact key w

theorem full_in (n : Nat) : In n (fullI n) := fun k hk => by
  obtain ⟨i, hi, rfl⟩ := List.mem_map.mp hk
  have := List.mem_range.mp hi
  omega

end W

set_option Elab.async false
set_option linter.all false
set_option maxRecDepth 100000
set_option maxHeartbeats 1000000
namespace W
open PySem PL
/-! ### what fits, by cases -/
theorem fl_lt {ws : List Wg} {cs : List (List Int)} (h : cs.length < 2) (k : Nat) : fitsL ws k cs = true := by
  cases k <;> simp [fitsL, h]
theorem fl_zero {ws : List Wg} {cs : List (List Int)} : fitsL ws 0 cs = true ↔ cs.length < 2 := by simp [fitsL]
theorem fl_succ {ws : List Wg} {cs : List (List Int)} {k : Nat} (h2 : ¬ cs.length < 2) : fitsL ws (k + 1) cs = true ↔ cs.length ≤ 3 ^ (k + 1) ∧ ws.any (tryW (fitsL ws k) cs) = true := by
  rw [fitsL, decide_eq_false h2, Bool.false_or, Bool.and_eq_true, Bool.not_eq_true', decide_eq_false_iff_not, Nat.not_lt]
theorem fl_le {ws : List Wg} {cs : List (List Int)} {k : Nat} (h : fitsL ws k cs = true) : cs.length ≤ 3 ^ k := by
  by_cases h2 : cs.length < 2
  · have := pow3_pos k
    omega
  · cases k with
    | zero => exact absurd (fl_zero.mp h) h2
    | succ k => exact ((fl_succ h2).mp h).1
theorem tryW_iff {f : List (List Int) → Bool} {cs : List (List Int)} {w : Wg} : tryW f cs w = true ↔ cs ∉ partsL w cs ∧ ∀ p ∈ partsL w cs, f p = true := by
  unfold tryW
  rw [Bool.and_eq_true, Bool.not_eq_true', decide_eq_false_iff_not, List.all_eq_true]
theorem tryW_mono {f g : List (List Int) → Bool} {cs : List (List Int)} {w : Wg} (hfg : ∀ p, f p = true → g p = true) (h : tryW f cs w = true) : tryW g cs w = true :=
  tryW_iff.mpr ⟨(tryW_iff.mp h).1, fun p hp => hfg p ((tryW_iff.mp h).2 p hp)⟩
theorem fl_mono1 {ws : List Wg} : ∀ (k : Nat) {cs : List (List Int)}, fitsL ws k cs = true → fitsL ws (k + 1) cs = true
  | 0, cs, h => fl_lt (fl_zero.mp h) _
  | k + 1, cs, h => by
    by_cases h2 : cs.length < 2
    · exact fl_lt h2 _
    · obtain ⟨h3, h4⟩ := (fl_succ h2).mp h
      obtain ⟨w, hw, ht⟩ := List.any_eq_true.mp h4
      refine (fl_succ h2).mpr ⟨?_, List.any_eq_true.mpr ⟨w, hw, tryW_mono (fun p => fl_mono1 k) ht⟩⟩
      have : 3 ^ (k + 1 + 1) = 3 * 3 ^ (k + 1) := by rw [Nat.pow_succ]; omega
      omega
theorem fl_mono {ws : List Wg} {cs : List (List Int)} {j k : Nat} (hjk : j ≤ k) (h : fitsL ws j cs = true) : fitsL ws k cs = true := by
  obtain ⟨d, rfl⟩ := Nat.le.dest hjk
  clear hjk
  induction d with
  | zero => exact h
  | succ d ih => exact fl_mono1 _ ih
theorem parts_by {w : Wg} {cs p : List (List Int)} (h : p ∈ partsL w cs) : ∃ d : Int, -1 ≤ d ∧ d ≤ 1 ∧ p = byW w d cs := by
  simp only [partsL, List.mem_cons, List.not_mem_nil, or_false] at h
  rcases h with rfl | rfl | rfl
  · exact ⟨-1, by decide, by decide, rfl⟩
  · exact ⟨0, by decide, by decide, rfl⟩
  · exact ⟨1, by decide, by decide, rfl⟩
theorem by_parts {w : Wg} {cs : List (List Int)} {d : Int} (h1 : -1 ≤ d) (h2 : d ≤ 1) : byW w d cs ∈ partsL w cs := by
  rcases (by omega : d = -1 ∨ d = 0 ∨ d = 1) with rfl | rfl | rfl <;> simp [partsL]
/-- fewer cases fit, too -/
theorem fl_sub {ws : List Wg} : ∀ (k : Nat) {cs cs' : List (List Int)}, cs'.Sublist cs → fitsL ws k cs = true → fitsL ws k cs' = true
  | 0, cs, cs', hs, h => fl_lt (Nat.lt_of_le_of_lt hs.length_le (fl_zero.mp h)) 0
  | k + 1, cs, cs', hs, h => by
    by_cases h2 : cs'.length < 2
    · exact fl_lt h2 _
    · have h2' : ¬ cs.length < 2 := fun z => h2 (Nat.lt_of_le_of_lt hs.length_le z)
      obtain ⟨h3, h4⟩ := (fl_succ h2').mp h
      obtain ⟨w, hw, ht⟩ := List.any_eq_true.mp h4
      obtain ⟨_, hp⟩ := tryW_iff.mp ht
      have part : ∀ d : Int, -1 ≤ d → d ≤ 1 → fitsL ws k (byW w d cs') = true := fun d d1 d2 => fl_sub k (hs.filter _) (hp _ (by_parts d1 d2))
      by_cases hm : cs' ∈ partsL w cs'
      · obtain ⟨d, d1, d2, e⟩ := parts_by hm
        have := part d d1 d2
        rw [← e] at this
        exact fl_mono1 k this
      · refine (fl_succ h2).mpr ⟨Nat.le_trans hs.length_le h3, List.any_eq_true.mpr ⟨w, hw, tryW_iff.mpr ⟨hm, fun p hp' => ?_⟩⟩⟩
        obtain ⟨d, d1, d2, rfl⟩ := parts_by hp'
        exact part d d1 d2
/-- two that are alike never fit -/
theorem fl_pair {ws : List Wg} {a b : List Int} (h : ∀ w ∈ ws, cm w a = cm w b) : ∀ k, fitsL ws k [a, b] = false
  | 0 => by simp [fitsL]
  | k + 1 => by
    cases e : fitsL ws (k + 1) [a, b] with
    | false => rfl
    | true =>
      obtain ⟨_, h4⟩ := (fl_succ (by simp)).mp e
      obtain ⟨w, hw, ht⟩ := List.any_eq_true.mp h4
      refine absurd ?_ (tryW_iff.mp ht).1
      have : byW w (cm w a) [a, b] = [a, b] := by
        have e2 := h w hw
        simp [byW, ← e2]
      have v := cm_val w a
      have hp := by_parts (w := w) (cs := [a, b]) (d := cm w a) (by omega) (by omega)
      rw [this] at hp
      exact hp
theorem sub_pair {α : Type} : ∀ {l : List α} {i k : Nat} {a b : α}, i < k → l[i]? = some a → l[k]? = some b → [a, b].Sublist l
  | [], i, k, a, b, _, h, _ => by simp at h
  | x :: l, 0, k + 1, a, b, _, h1, h2 => by
    simp at h1 h2
    subst h1
    exact (List.singleton_sublist.mpr (List.mem_of_getElem? h2)).cons_cons x
  | x :: l, i + 1, 0, a, b, hik, _, _ => absurd hik (Nat.not_lt_zero _)
  | x :: l, i + 1, k + 1, a, b, hik, h1, h2 => (sub_pair (i := i) (k := k) (by omega) (by simpa using h1) (by simpa using h2)).cons x
theorem fl_alike {ws : List Wg} {os : List (List Int)} {i k : Nat} {a b : List Int} (hik : i < k) (ha : os[i]? = some a) (hb : os[k]? = some b) (h : ∀ w ∈ ws, cm w a = cm w b) (j : Nat) : fitsL ws j os = false := by
  cases e : fitsL ws j os with
  | false => rfl
  | true =>
    have := fl_sub j (sub_pair hik ha hb) e
    rw [fl_pair h j] at this
    cases this
/-! ### the least length -/
def leastV (m : Nat) (os : List (List Int)) : Option Nat := if os = [] then none else (List.range 12).find? fun k => fitsL (Ws m) k os
theorem leastV_some {m : Nat} {os : List (List Int)} {L : Nat} : leastV m os = some L ↔ os ≠ [] ∧ L < 12 ∧ fitsL (Ws m) L os = true ∧ ∀ j, j < L → fitsL (Ws m) j os = false := by
  unfold leastV
  by_cases h : os = []
  · simp [h]
  · rw [if_neg h, List.find?_range_eq_some]
    simp only [List.mem_range, Bool.not_eq_true', h, ne_eq, not_false_eq_true, true_and]
    constructor
    · exact fun ⟨a, b, c⟩ => ⟨b, a, c⟩
    · exact fun ⟨b, a, c⟩ => ⟨a, b, c⟩
theorem leastV_none {m : Nat} {os : List (List Int)} : leastV m os = none ↔ os = [] ∨ ∀ j, j < 12 → fitsL (Ws m) j os = false := by
  unfold leastV
  by_cases h : os = []
  · simp [h]
  · rw [if_neg h, List.find?_eq_none]
    simp [h]
end W

set_option Elab.async false
set_option linter.all false
set_option maxRecDepth 100000
set_option maxHeartbeats 1000000
namespace W
open PySem PL
/-! ### least, by its value -/
theorem col_eq' {os : List (List Int)} {ws : List Wg} {i : Nat} {a : List Int} (h : os[i]? = some a) : colI (rowsW os ws) i = ws.map fun w => cm w a := by
  unfold colI rowsW
  rw [List.map_map]
  refine List.map_congr_left fun w _ => ?_
  rw [Function.comp, rowOf, List.getD_eq_getElem?_getD, List.getElem?_map, h]
  rfl
theorem least_leastV {m : Nat} {os : List (List Int)} (hne : os ≠ []) {L : Nat} (h : Least (rowsW os (Ws m)) os.length L) : leastV m os = some L := by
  have fp := fun k => fits_pick (cs := os) (ws := Ws m) k (fullI os.length) (full_in _)
  simp only [pick_full] at fp
  have := h.le
  exact leastV_some.mpr ⟨hne, by omega, by rw [fp]; exact h.fit, fun j hj => by rw [fp]; exact h.lt j hj⟩
theorem leastV_alike {m : Nat} {os : List (List Int)} {i k : Nat} {a b : List Int} (hik : i < k) (ha : os[i]? = some a) (hb : os[k]? = some b) (h : ∀ w ∈ Ws m, cm w a = cm w b) : leastV m os = none :=
  leastV_none.mpr (.inr fun j _ => fl_alike hik ha hb h j)
theorem F_least_opt {m : Nat} (hm : Many m) {cs : List (List Int)} (hc : CasesOk m cs) {ds : List Dn} (hd : ∀ x ∈ ds, DnOk m x) (hl : ds.length ≤ 20) :
    F_least [.int m, .list (cs.map encC), .list (ds.map encX)] = .ok (optI (leastV m (openI ds cs))) := by
  have so := F_still_open_eq hm hc hd hl
  have hos : ∀ c ∈ openI ds cs, CaseOk m c := fun c h => hc.ok c (List.mem_filter.mp h).1
  have hol : (openI ds cs).length ≤ 12 := Nat.le_trans (List.length_filter_le _ _) hc.le
  generalize openI ds cs = os at so hos hol ⊢
  have ns := newS_eq hm hos (by omega)
  have hrows := rows_len (cs := os) (ws := Ws m) (n := os.length) rfl
  have self := self_zS os (Ws m) (rowsW os (Ws m))
  have rl : (rowsW os (Ws m)).length ≤ 1000 := by
    have := (Ws_len hm).2
    simp only [rowsW, List.length_map]
    omega
  by_cases he : os = []
  · subst he
    have d0 : dEq (.list []) (.list []) = .ok (.bool true) := dEq_nil (cs := [])
    have e0 : leastV m [] = none := rfl
    rw [e0]
    unfold F_least g_least
    simp only [dIx_t0, dIx_t1, dIx_l0, dIx_l1, toItems, itemsOf, runF, runL, startE, endF, endL, R.bind_ok, R.bind_exc, R.bind_stuck, gSeq, gIf, gSet, gOwn, gRet, gRetL, gRetO, gDrop, gTgt, gT, gsC, gsN, gN, gFor, gApp, gExt, gFrz, gNil, gExc, eVar, eC, e1, e2, eA, aNil, aCons, eTup, eLst, eCall, lCall, listR, eChain, tV, tAndD, tOrD, tNotD, eAnd, eOr, eNot, eIf, eL, lDisp, lList, lRep, oNone, oSome, eSl, iSeq, iRng1, iRng2, iZipD, iEnumD, iRevD, lListRange, lLc, eSorted, eSortSet, eLenSet, eBor, tBor, tYesD, noE, toB, dCmp, dSub, dNeg, dInt, dLen, dIs, dIsNot, List.map_cons, List.map_nil, List.length_cons, List.length_nil, Nat.reduceAdd, Nat.reduceSub, Nat.reduceLeDiff, List.replicate, List.cons_append, List.nil_append, List.append_nil, List.getElem?_cons_zero, List.getElem?_cons_succ, List.set_cons_zero, List.set_cons_succ, if_true, if_false, reduceIte, Bool.not_true, Bool.not_false, Bool.false_eq_true, reduceCtorEq, so, d0, optI]
  · have ie : os.isEmpty = false := by cases os with
      | nil => exact absurd rfl he
      | cons _ _ => rfl
    rcases F_alike_eq (cs := os) (ws := Ws m) hrows rl rfl hol with ⟨al, ap⟩ | ⟨i, k, a, b, h1, h2, h3, h4, h5, al⟩
    · obtain ⟨L, hL⟩ := least_ex hol (apart_of ap)
      have fl := F_least_eq (cs := os) (ws := Ws m) rfl hol hrows hL
      rw [least_leastV he hL]
      unfold F_least g_least
      simp only [dIx_t0, dIx_t1, dIx_l0, dIx_l1, toItems, itemsOf, runF, runL, startE, endF, endL, R.bind_ok, R.bind_exc, R.bind_stuck, gSeq, gIf, gSet, gOwn, gRet, gRetL, gRetO, gDrop, gTgt, gT, gsC, gsN, gN, gFor, gApp, gExt, gFrz, gNil, gExc, eVar, eC, e1, e2, eA, aNil, aCons, eTup, eLst, eCall, lCall, listR, eChain, tV, tAndD, tOrD, tNotD, eAnd, eOr, eNot, eIf, eL, lDisp, lList, lRep, oNone, oSome, eSl, iSeq, iRng1, iRng2, iZipD, iEnumD, iRevD, lListRange, lLc, eSorted, eSortSet, eLenSet, eBor, tBor, tYesD, noE, toB, dCmp, dSub, dNeg, dInt, dLen, dIs, dIsNot, List.map_cons, List.map_nil, List.length_cons, List.length_nil, Nat.reduceAdd, Nat.reduceSub, Nat.reduceLeDiff, List.replicate, List.cons_append, List.nil_append, List.append_nil, List.getElem?_cons_zero, List.getElem?_cons_succ, List.set_cons_zero, List.set_cons_succ, if_true, if_false, reduceIte, Bool.not_true, Bool.not_false, Bool.false_eq_true, reduceCtorEq, so, dEq_nil, ie, ns, eMeth, self, al, fl, optI]
    · have hw : ∀ w ∈ Ws m, cm w a = cm w b := by
        rw [col_eq' h4, col_eq' h5] at h3
        exact fun w hw => List.map_inj_left.mp h3 w hw
      rw [leastV_alike h1 h4 h5 hw]
      unfold F_least g_least
      simp only [dIx_t0, dIx_t1, dIx_l0, dIx_l1, toItems, itemsOf, runF, runL, startE, endF, endL, R.bind_ok, R.bind_exc, R.bind_stuck, gSeq, gIf, gSet, gOwn, gRet, gRetL, gRetO, gDrop, gTgt, gT, gsC, gsN, gN, gFor, gApp, gExt, gFrz, gNil, gExc, eVar, eC, e1, e2, eA, aNil, aCons, eTup, eLst, eCall, lCall, listR, eChain, tV, tAndD, tOrD, tNotD, eAnd, eOr, eNot, eIf, eL, lDisp, lList, lRep, oNone, oSome, eSl, iSeq, iRng1, iRng2, iZipD, iEnumD, iRevD, lListRange, lLc, eSorted, eSortSet, eLenSet, eBor, tBor, tYesD, noE, toB, dCmp, dSub, dNeg, dInt, dLen, dIs, dIsNot, List.map_cons, List.map_nil, List.length_cons, List.length_nil, Nat.reduceAdd, Nat.reduceSub, Nat.reduceLeDiff, List.replicate, List.cons_append, List.nil_append, List.append_nil, List.getElem?_cons_zero, List.getElem?_cons_succ, List.set_cons_zero, List.set_cons_succ, if_true, if_false, reduceIte, Bool.not_true, Bool.not_false, Bool.false_eq_true, reduceCtorEq, so, dEq_nil, ie, ns, eMeth, self, al, optI]
theorem open_more (ds : List Dn) (x : Dn) (cs : List (List Int)) : openI (ds ++ [x]) cs = byW x.1 x.2 (openI ds cs) := by
  unfold openI byW
  rw [List.filter_filter]
  refine List.filter_congr fun c _ => ?_
  simp [Bool.and_comm]
/-- where no two are alike there is a least length -/
theorem leastV_ex {m : Nat} {os : List (List Int)} (hne : os ≠ []) (hl : os.length ≤ 12) (h : ∀ (i k : Nat) (a b : List Int), i < k → os[i]? = some a → os[k]? = some b → ∃ w ∈ Ws m, cm w a ≠ cm w b) : ∃ L, leastV m os = some L := by
  have ap : Apart os.length (rowsW os (Ws m)) := apart_of fun i k hik hk e => by
    obtain ⟨a, ha⟩ : ∃ a, os[i]? = some a := ⟨_, List.getElem?_eq_getElem (by omega)⟩
    obtain ⟨b, hb⟩ : ∃ b, os[k]? = some b := ⟨_, List.getElem?_eq_getElem (by omega)⟩
    obtain ⟨w, hw, hne⟩ := h i k a b hik ha hb
    rw [col_eq' ha, col_eq' hb] at e
    exact hne (List.map_inj_left.mp e w hw)
  obtain ⟨L, hL⟩ := least_ex hl ap
  exact ⟨L, least_leastV hne hL⟩
end W

set_option Elab.async false
set_option linter.all false
set_option maxRecDepth 100000
set_option maxHeartbeats 1000000
namespace W
open PySem PL
/-! ### one weighing more -/
theorem max_spec {l : List Int} (h : l ≠ []) : ∃ b ∈ l, (∀ x ∈ l, x ≤ b) ∧ dMax [.list (l.map PyData.int)] = .ok (.int b) := by
  cases l with
  | nil => exact absurd rfl h
  | cons n r =>
    obtain ⟨h1, h2, h3⟩ := maxI_spec r n
    refine ⟨maxI n r, ?_, fun x hx => ?_, ?_⟩
    · rcases h1 with e | e
      · rw [e]; exact List.mem_cons_self ..
      · exact List.mem_cons_of_mem _ e
    · rcases List.mem_cons.mp hx with rfl | hx
      · exact h2
      · exact h3 x hx
    · simp only [dMax, intsOf_map]
theorem min_spec {l : List Int} (h : l ≠ []) : ∃ b ∈ l, (∀ x ∈ l, b ≤ x) ∧ dMin [.list (l.map PyData.int)] = .ok (.int b) := by
  cases l with
  | nil => exact absurd rfl h
  | cons n r =>
    obtain ⟨h1, h2, h3⟩ := minI_spec r n
    refine ⟨minI n r, ?_, fun x hx => ?_, ?_⟩
    · rcases h1 with e | e
      · rw [e]; exact List.mem_cons_self ..
      · exact List.mem_cons_of_mem _ e
    · rcases List.mem_cons.mp hx with rfl | hx
      · exact h2
      · exact h3 x hx
    · simp only [dMin, intsOf_map]
theorem leastV_fit {m : Nat} {os : List (List Int)} (hne : os ≠ []) {k : Nat} (hk : k < 12) (h : fitsL (Ws m) k os = true) : ∃ L, L ≤ k ∧ leastV m os = some L := by
  obtain ⟨L, h1, h2, h3⟩ := least_of (fun j => fitsL (Ws m) j os) k h
  exact ⟨L, h1, leastV_some.mpr ⟨hne, by omega, h2, h3⟩⟩
theorem leastV_le {m : Nat} {os : List (List Int)} {L k : Nat} (h : leastV m os = some L) (hk : fitsL (Ws m) k os = true) : L ≤ k := by
  rcases Nat.lt_or_ge k L with h1 | h1
  · rw [(leastV_some.mp h).2.2.2 k h1] at hk
    cases hk
  · exact h1
theorem leastV_sub {m : Nat} {os os' : List (List Int)} (hs : os'.Sublist os) (hne : os' ≠ []) {L : Nat} (h : leastV m os = some L) : ∃ L', L' ≤ L ∧ leastV m os' = some L' := by
  obtain ⟨_, h1, h2, _⟩ := leastV_some.mp h
  exact leastV_fit hne h1 (fl_sub L hs h2)
theorem by_sublist {w : Wg} {d : Int} {cs : List (List Int)} : (byW w d cs).Sublist cs := List.filter_sublist
/-- the greatest of the least lengths behind a weighing -/
structure MaxOf (m : Nat) (os : List (List Int)) (w : Wg) (M : Nat) : Prop where
  all : ∀ d : Int, -1 ≤ d → d ≤ 1 → fitsL (Ws m) M (byW w d os) = true
  one : ∃ d : Int, -1 ≤ d ∧ d ≤ 1 ∧ byW w d os ≠ [] ∧ leastV m (byW w d os) = some M
theorem MaxOf.ge {m : Nat} {os : List (List Int)} {w : Wg} (hw : w ∈ Ws m) {M L : Nat} (hM : MaxOf m os w M) (hL : leastV m os = some L) (h2 : ¬ os.length < 2) : L ≤ M + 1 := by
  by_cases hp : os ∈ partsL w os
  · obtain ⟨d, d1, d2, e⟩ := parts_by hp
    have := hM.all d d1 d2
    rw [← e] at this
    have := leastV_le hL this
    omega
  · refine leastV_le hL ((fl_succ h2).mpr ⟨?_, List.any_eq_true.mpr ⟨w, hw, tryW_iff.mpr ⟨hp, fun p hp' => ?_⟩⟩⟩)
    · have b0 := fl_le (hM.all (-1) (by decide) (by decide))
      have b1 := fl_le (hM.all 0 (by decide) (by decide))
      have b2 := fl_le (hM.all 1 (by decide) (by decide))
      have sum := by_len w os
      have : 3 ^ (M + 1) = 3 * 3 ^ M := by rw [Nat.pow_succ]; omega
      omega
    · obtain ⟨d, d1, d2, rfl⟩ := parts_by hp'
      exact hM.all d d1 d2
theorem MaxOf.le {m : Nat} {os : List (List Int)} {w : Wg} {M k : Nat} (hM : MaxOf m os w M) (h : ∀ d : Int, -1 ≤ d → d ≤ 1 → fitsL (Ws m) k (byW w d os) = true) : M ≤ k := by
  obtain ⟨d, d1, d2, hne, e⟩ := hM.one
  exact leastV_le e (h d d1 d2)
/-- there is a weighing behind which one less is enough -/
theorem best_ex {m : Nat} {os : List (List Int)} {L : Nat} (hL : leastV m os = some (L + 1)) : ¬ os.length < 2 ∧ ∃ w ∈ Ws m, ∀ d : Int, -1 ≤ d → d ≤ 1 → fitsL (Ws m) L (byW w d os) = true := by
  obtain ⟨_, _, h1, h2⟩ := leastV_some.mp hL
  have h3 : ¬ os.length < 2 := fun z => by
    have := h2 0 (by omega)
    rw [fl_lt z] at this
    cases this
  obtain ⟨_, h4⟩ := (fl_succ h3).mp h1
  obtain ⟨w, hw, ht⟩ := List.any_eq_true.mp h4
  exact ⟨h3, w, hw, fun d d1 d2 => (tryW_iff.mp ht).2 _ (by_parts d1 d2)⟩
theorem zero_one {m : Nat} {os : List (List Int)} (hL : leastV m os = some 0) : os.length = 1 := by
  obtain ⟨h0, _, h1, _⟩ := leastV_some.mp hL
  have := fl_zero.mp h1
  have := List.length_pos_iff.mpr h0
  omega
/-- the numbers that come -/
def dues (w : Wg) (os : List (List Int)) : List Int := [-1, 0, 1].filter fun d => !(byW w d os).isEmpty
theorem dues_mem {w : Wg} {os : List (List Int)} {d : Int} : d ∈ dues w os ↔ (-1 ≤ d ∧ d ≤ 1) ∧ byW w d os ≠ [] := by
  unfold dues
  rw [List.mem_filter]
  simp only [List.mem_cons, List.not_mem_nil, or_false, Bool.not_eq_true', List.isEmpty_eq_false_iff]
  constructor
  · rintro ⟨h, h2⟩
    exact ⟨by omega, h2⟩
  · rintro ⟨h, h2⟩
    exact ⟨by omega, h2⟩
theorem dues_ne {w : Wg} {os : List (List Int)} (h : os ≠ []) : dues w os ≠ [] := by
  obtain ⟨c, hc⟩ := List.exists_mem_of_ne_nil os h
  have hb := mem_by (w := w) hc
  have v := cm_val w c
  exact List.ne_nil_of_mem (dues_mem.mpr ⟨by omega, List.ne_nil_of_mem hb⟩)
/-- behind a weighing, where there is a least length -/
theorem behind_some {m : Nat} {os : List (List Int)} {L : Nat} (hL : leastV m os = some L) (w : Wg) : ∃ (ls : List Nat) (M : Nat), (dues w os).map (fun d => optI (leastV m (byW w d os))) = (ls.map fun l : Nat => (l : Int)).map PyData.int ∧ M ≤ L ∧ MaxOf m os w M ∧ dMax [.list ((ls.map fun l : Nat => (l : Int)).map PyData.int)] = .ok (.int (M : Nat)) := by
  have hne := (leastV_some.mp hL).1
  have f : ∀ d ∈ dues w os, leastV m (byW w d os) = some ((leastV m (byW w d os)).getD 0) ∧ (leastV m (byW w d os)).getD 0 ≤ L := fun d hd => by
    obtain ⟨L', h1, h2⟩ := leastV_sub (by_sublist (w := w) (d := d) (cs := os)) (dues_mem.mp hd).2 hL
    rw [h2]
    exact ⟨rfl, h1⟩
  obtain ⟨b, hb, hmax, e⟩ := max_spec (l := ((dues w os).map fun d => (leastV m (byW w d os)).getD 0).map fun l : Nat => (l : Int)) (by
    intro z
    have := congrArg List.length z
    simp at this
    exact dues_ne hne this)
  obtain ⟨M, hM, rfl⟩ := List.mem_map.mp hb
  obtain ⟨d0, hd0, rfl⟩ := List.mem_map.mp hM
  refine ⟨(dues w os).map fun d => (leastV m (byW w d os)).getD 0, _, ?_, (f d0 hd0).2, ⟨fun d d1 d2 => ?_, ⟨d0, (dues_mem.mp hd0).1.1, (dues_mem.mp hd0).1.2, (dues_mem.mp hd0).2, (f d0 hd0).1⟩⟩, e⟩
  · rw [List.map_map, List.map_map]
    refine List.map_congr_left fun d hd => ?_
    rw [(f d hd).1]
    rfl
  · by_cases hn : byW w d os = []
    · rw [hn]
      exact fl_lt (by decide) _
    · have hd : d ∈ dues w os := dues_mem.mpr ⟨⟨d1, d2⟩, hn⟩
      have hle := hmax ((((leastV m (byW w d os)).getD 0 : Nat)) : Int) (List.mem_map_of_mem (List.mem_map_of_mem (f := fun d => (leastV m (byW w d os)).getD 0) hd))
      exact fl_mono (by omega) (leastV_some.mp (f d hd).1).2.2.1
/-- .. and where there is none -/
theorem none_alike' {m : Nat} {os : List (List Int)} (hne : os ≠ []) (hl : os.length ≤ 12) (h : leastV m os = none) : ∃ (i k : Nat) (a b : List Int), i < k ∧ os[i]? = some a ∧ os[k]? = some b ∧ ∀ w ∈ Ws m, cm w a = cm w b := by
  apply Classical.byContradiction
  intro z
  obtain ⟨L, e⟩ := leastV_ex (m := m) hne hl fun i k a b hik ha hb => by
    apply Classical.byContradiction
    intro y
    refine z ⟨i, k, a, b, hik, ha, hb, fun w hw => ?_⟩
    apply Classical.byContradiction
    exact fun x => y ⟨w, hw, x⟩
  rw [h] at e
  cases e
theorem behind_none {m : Nat} {os : List (List Int)} (hne : os ≠ []) (hl : os.length ≤ 12) (h : leastV m os = none) {w : Wg} (hw : w ∈ Ws m) : ∃ d ∈ dues w os, leastV m (byW w d os) = none := by
  obtain ⟨i, k, a, b, hik, ha, hb, hal⟩ := none_alike' hne hl h
  have v := cm_val w a
  have am := mem_by (w := w) (List.mem_of_getElem? ha)
  refine ⟨cm w a, dues_mem.mpr ⟨by omega, List.ne_nil_of_mem am⟩, leastV_none.mpr (.inr fun j _ => ?_)⟩
  cases e : fitsL (Ws m) j (byW w (cm w a) os) with
  | false => rfl
  | true =>
    have s2 := (sub_pair hik ha hb).filter fun c => decide (cm w c = cm w a)
    have e2 : [a, b].filter (fun c => decide (cm w c = cm w a)) = [a, b] := by
      have := hal w hw
      simp [this]
    rw [e2] at s2
    have := fl_sub j s2 e
    rw [fl_pair hal j] at this
    cases this
end W

set_option Elab.async false
set_option linter.all false
set_option maxRecDepth 100000
set_option maxHeartbeats 1000000
namespace W
open PySem PL
/-! ### told otherwise: the same fits -/
/-- each weighing has one that tells the same of the cases told otherwise -/
def Sim (ws : List Wg) (f : List Int → List Int) (cs : List (List Int)) : Prop := ∀ w ∈ ws, ∃ w' ∈ ws, ∃ s : Int, (s = 1 ∨ s = -1) ∧ ∀ c ∈ cs, cm w' (f c) = s * cm w c
theorem Sim.sub {ws : List Wg} {f : List Int → List Int} {cs cs' : List (List Int)} (h : Sim ws f cs) (hs : ∀ c ∈ cs', c ∈ cs) : Sim ws f cs' := fun w hw => by
  obtain ⟨w', h1, s, h2, h3⟩ := h w hw
  exact ⟨w', h1, s, h2, fun c hc => h3 c (hs c hc)⟩
theorem all_part {w : Wg} {d : Int} {cs : List (List Int)} : cs = byW w d cs ↔ ∀ c ∈ cs, cm w c = d := by
  unfold byW
  constructor
  · intro e c hc
    rw [e] at hc
    exact of_decide_eq_true (List.mem_filter.mp hc).2
  · exact fun h => (List.filter_eq_self.mpr fun c hc => decide_eq_true (h c hc)).symm
theorem fl_sim {ws : List Wg} {f : List Int → List Int} : ∀ (k : Nat) {cs cs' : List (List Int)}, Sim ws f cs → cs'.Perm (cs.map f) → fitsL ws k cs = true → fitsL ws k cs' = true
  | 0, cs, cs', _, hp, h => by
    have := hp.length_eq
    rw [List.length_map] at this
    rw [fl_zero] at h ⊢
    omega
  | k + 1, cs, cs', hS, hp, h => by
    have hl := hp.length_eq
    rw [List.length_map] at hl
    by_cases h2 : cs.length < 2
    · exact fl_lt (by omega) _
    · obtain ⟨h3, h4⟩ := (fl_succ h2).mp h
      obtain ⟨w, hw, ht⟩ := List.any_eq_true.mp h4
      obtain ⟨hn, hf⟩ := tryW_iff.mp ht
      obtain ⟨w', hw', s, hs, he⟩ := hS w hw
      have ss : s * s = 1 := by rcases hs with rfl | rfl <;> decide
      have part : ∀ d : Int, (byW w' d cs').Perm ((byW w (s * d) cs).map f) := fun d => by
        have h1 := hp.filter fun c => decide (cm w' c = d)
        rw [List.filter_map] at h1
        unfold byW
        refine h1.trans ?_
        rw [show cs.filter ((fun c => decide (cm w' c = d)) ∘ f) = cs.filter (fun c => decide (cm w c = s * d)) from List.filter_congr fun c hc => ?_]
        rw [Function.comp, he c hc]
        refine decide_eq_decide.mpr ⟨fun e => ?_, fun e => ?_⟩
        · rw [← e, ← Int.mul_assoc, ss, Int.one_mul]
        · rw [e, ← Int.mul_assoc, ss, Int.one_mul]
      have rng : ∀ d : Int, -1 ≤ d → d ≤ 1 → -1 ≤ s * d ∧ s * d ≤ 1 := fun d d1 d2 => by rcases hs with rfl | rfl <;> omega
      refine (fl_succ (by omega)).mpr ⟨by omega, List.any_eq_true.mpr ⟨w', hw', tryW_iff.mpr ⟨fun hm => ?_, fun p hp' => ?_⟩⟩⟩
      · obtain ⟨d, d1, d2, e⟩ := parts_by hm
        refine hn ?_
        have e2 : cs = byW w (s * d) cs := all_part.mpr fun c hc => by
          have := all_part.mp e (f c) (hp.mem_iff.mpr (List.mem_map_of_mem hc))
          rw [he c hc] at this
          rw [← this, ← Int.mul_assoc, ss, Int.one_mul]
        have := by_parts (w := w) (cs := cs) (rng d d1 d2).1 (rng d d1 d2).2
        rw [← e2] at this
        exact this
      · obtain ⟨d, d1, d2, rfl⟩ := parts_by hp'
        exact fl_sim k (hS.sub fun c hc => by_sub c hc) (part d) (hf _ (by_parts (rng d d1 d2).1 (rng d d1 d2).2))
theorem fl_perm {ws : List Wg} (k : Nat) {cs cs' : List (List Int)} (hp : cs'.Perm cs) : fitsL ws k cs' = fitsL ws k cs := by
  have s : ∀ l, Sim ws id l := fun l w hw => ⟨w, hw, 1, .inl rfl, fun c _ => by rw [Int.one_mul]; rfl⟩
  rw [Bool.eq_iff_iff]
  exact ⟨fl_sim k (s _) (by rw [List.map_id]; exact hp.symm), fl_sim k (s _) (by rw [List.map_id]; exact hp)⟩
theorem leastV_congr {m : Nat} {cs cs' : List (List Int)} (h0 : cs = [] ↔ cs' = []) (h : ∀ k, fitsL (Ws m) k cs = fitsL (Ws m) k cs') : leastV m cs = leastV m cs' := by
  unfold leastV
  by_cases e : cs = []
  · rw [if_pos e, if_pos (h0.mp e)]
  · rw [if_neg e, if_neg fun z => e (h0.mpr z)]
    congr 1
    funext k
    exact h k
theorem leastV_perm {m : Nat} {cs cs' : List (List Int)} (hp : cs'.Perm cs) : leastV m cs' = leastV m cs :=
  leastV_congr (by rw [← List.length_eq_zero_iff, ← List.length_eq_zero_iff, hp.length_eq]) fun k => fl_perm k hp
/-- there and back -/
theorem leastV_sim {m : Nat} {f g : List Int → List Int} {cs cs' : List (List Int)} (hf : Sim (Ws m) f cs) (hg : Sim (Ws m) g cs') (hp : cs'.Perm (cs.map f)) (hb : cs.Perm (cs'.map g)) : leastV m cs' = leastV m cs :=
  leastV_congr (by rw [← List.length_eq_zero_iff, ← List.length_eq_zero_iff, hp.length_eq, List.length_map]) fun k => by
    rw [Bool.eq_iff_iff]
    exact ⟨fl_sim k hg hb, fl_sim k hf hp⟩
end W

set_option Elab.async false
set_option linter.all false
set_option maxRecDepth 100000
set_option maxHeartbeats 1000000
namespace W
open PySem PL
/-! ### the word that is told, and the least length -/
def wordOf (m : Nat) (os : List (List Int)) : Str := if os = [] then sNone else if leastV m os = none then sAlike else sPlan
theorem told_word {m : Nat} (hm : Many m) {cs : List (List Int)} (hc : CasesOk m cs) {ds : List Dn} (hd : ∀ x ∈ ds, DnOk m x) (hl : ds.length ≤ 20) :
    (∃ rest, F_told [.int m, .list (cs.map encC), .list (ds.map encX)] = .ok (.tuple (.str (wordOf m (openI ds cs)) :: rest))) ∧ F_least [.int m, .list (cs.map encC), .list (ds.map encX)] = .ok (optI (leastV m (openI ds cs))) := by
  refine ⟨?_, F_least_opt hm hc hd hl⟩
  unfold wordOf
  rcases told_least hm hc hd hl with ⟨he, t1, t2⟩ | ⟨i, k, a, b, hik, ha, hb, hw, t1, t2⟩ | ⟨he, L, q, h, p, t1, t2⟩
  · rw [if_pos he]
    exact ⟨_, t1⟩
  · have ne : openI ds cs ≠ [] := fun z => by rw [z] at ha; cases ha
    rw [if_neg ne, if_pos (leastV_alike hik ha hb hw)]
    exact ⟨_, t1⟩
  · rw [if_neg he, if_neg (by rw [least_leastV he p.least]; exact fun z => by cases z)]
    exact ⟨_, t1⟩
/-- two puzzles that come to the same -/
structure Same (m : Nat) (os os' : List (List Int)) : Prop where
  nil : os' = [] ↔ os = []
  least : leastV m os' = leastV m os
theorem Same.word {m : Nat} {os os' : List (List Int)} (h : Same m os os') : wordOf m os' = wordOf m os := by
  unfold wordOf
  rw [h.least]
  by_cases e : os = []
  · rw [if_pos e, if_pos (h.nil.mpr e)]
  · rw [if_neg e, if_neg fun z => e (h.nil.mp z)]
theorem same_perm {m : Nat} {os os' : List (List Int)} (h : os'.Perm os) : Same m os os' :=
  ⟨by rw [← List.length_eq_zero_iff, ← List.length_eq_zero_iff, h.length_eq], leastV_perm h⟩
theorem same_map {m : Nat} {os : List (List Int)} {f g : List Int → List Int} (hf : Sim (Ws m) f os) (hg : Sim (Ws m) g (os.map f)) (hb : ∀ c ∈ os, g (f c) = c) : Same m os (os.map f) :=
  ⟨List.map_eq_nil_iff, leastV_sim hf hg (List.Perm.refl _) (by
    rw [List.map_map]
    have : os.map (g ∘ f) = os := by
      rw [show os.map (g ∘ f) = os.map id from List.map_congr_left hb, List.map_id]
    rw [this])⟩
/-! ### what is open, told otherwise -/
theorem open_map {f : List Int → List Int} {h : Dn → Dn} {ds : List Dn} {cs : List (List Int)} (e : ∀ x ∈ ds, ∀ c ∈ cs, cm (h x).1 (f c) = (h x).2 ↔ cm x.1 c = x.2) : openI (ds.map h) (cs.map f) = (openI ds cs).map f := by
  unfold openI
  rw [List.filter_map]
  congr 1
  refine List.filter_congr fun c hc => ?_
  rw [Function.comp, List.all_map, Bool.eq_iff_iff, List.all_eq_true, List.all_eq_true]
  exact ⟨fun z x hx => decide_eq_true ((e x hx c hc).mp (of_decide_eq_true (z x hx))), fun z x hx => decide_eq_true ((e x hx c hc).mpr (of_decide_eq_true (z x hx)))⟩
theorem open_rev (ds : List Dn) (cs : List (List Int)) : openI ds cs.reverse = (openI ds cs).reverse := by
  unfold openI
  rw [List.filter_reverse]
def negC (c : List Int) : List Int := c.map fun z => 0 - z
def turnX (x : Dn) : Dn := (swapW x.1, 0 - x.2)
def negX (x : Dn) : Dn := (x.1, 0 - x.2)
def bothX (x : Dn) : Dn := (swapW x.1, x.2)
theorem neg_neg' {c : List Int} : negC (negC c) = c := by
  unfold negC
  rw [List.map_map]
  have : c.map ((fun z => 0 - z) ∘ fun z => 0 - z) = c.map id := List.map_congr_left fun z _ => by simp
  rw [this, List.map_id]
theorem neg_ok {m : Nat} {c : List Int} (h : CaseOk m c) : CaseOk m (negC c) := ⟨by rw [negC, List.length_map]; exact h.1, fun z hz => by
  obtain ⟨y, hy, rfl⟩ := List.mem_map.mp hz
  have := h.2 y hy
  omega⟩
theorem atc_neg (c : List Int) (i : Int) : atc (negC c) i = 0 - atc c i := by
  unfold atc negC
  rw [List.getD_eq_getElem?_getD, List.getD_eq_getElem?_getD, List.getElem?_map]
  cases c[i.toNat]? <;> simp
theorem sum_neg (c : List Int) : ∀ a : List Int, sumAt (negC c) a = 0 - sumAt c a
  | [] => rfl
  | i :: a => by
    have := sum_neg c a
    unfold sumAt at this ⊢
    rw [List.map_cons, List.map_cons, List.sum_cons, List.sum_cons, this, atc_neg]
    omega
theorem cm_neg (w : Wg) (c : List Int) : cm w (negC c) = 0 - cm w c := by
  unfold cm cameI
  rw [sum_neg, sum_neg]
  unfold sgn
  generalize sumAt c w.1 = x
  generalize sumAt c w.2 = y
  split <;> split <;> (try split) <;> (try split) <;> omega
theorem turn_same {ds : List Dn} {cs : List (List Int)} : openI (ds.map turnX) cs = openI ds cs := by
  unfold openI
  refine List.filter_congr fun c _ => ?_
  rw [List.all_map, Bool.eq_iff_iff, List.all_eq_true, List.all_eq_true]
  have e : ∀ x : Dn, (cm (turnX x).1 c = (turnX x).2) ↔ cm x.1 c = x.2 := fun x => by
    unfold turnX
    rw [cm_swap]
    dsimp only
    omega
  exact ⟨fun z x hx => decide_eq_true ((e x).mp (of_decide_eq_true (z x hx))), fun z x hx => decide_eq_true ((e x).mpr (of_decide_eq_true (z x hx)))⟩
theorem open_drev (ds : List Dn) (cs : List (List Int)) : openI ds.reverse cs = openI ds cs := by
  unfold openI
  refine List.filter_congr fun c _ => ?_
  rw [List.all_reverse]
theorem open_self (ds : List Dn) (cs : List (List Int)) : openI ds (openI ds cs) = openI ds cs := by
  unfold openI
  rw [List.filter_filter]
  exact List.filter_congr fun c _ => Bool.and_self _
theorem turn_ok {m : Nat} {x : Dn} (h : DnOk m x) (hw : isW m (encW (swapW x.1)) = true) : DnOk m (turnX x) := ⟨hw, h.l2, h.l1, by have := h.hi; show (-1 : Int) ≤ 0 - x.2; omega, by have := h.lo; show 0 - x.2 ≤ (1 : Int); omega⟩
theorem neg_dn {m : Nat} {x : Dn} (h : DnOk m x) : DnOk m (negX x) := ⟨h.w, h.l1, h.l2, by have := h.hi; show (-1 : Int) ≤ 0 - x.2; omega, by have := h.lo; show 0 - x.2 ≤ (1 : Int); omega⟩
theorem both_ok {m : Nat} {x : Dn} (h : DnOk m x) (hw : isW m (encW (swapW x.1)) = true) : DnOk m (bothX x) := ⟨hw, h.l2, h.l1, h.lo, h.hi⟩
theorem neg_sim (m : Nat) (cs : List (List Int)) : Sim (Ws m) negC cs := fun w hw => ⟨w, hw, -1, .inr rfl, fun c _ => by rw [cm_neg]; omega⟩
end W

set_option Elab.async false
set_option linter.all false
set_option maxRecDepth 100000
set_option maxHeartbeats 1000000
namespace W
open PySem PL
/-! ### cases of a kind that is known -/
def decC1 : D → Option (List Int)
  | .tuple xs => intsOf xs
  | _ => none
def decCs : List D → Option (List (List Int))
  | [] => some []
  | x :: r => match decC1 x, decCs r with
    | some c, some l => some (c :: l)
    | _, _ => none
theorem decCs_eq : ∀ {xs : List D} {l : List (List Int)}, decCs xs = some l → xs = l.map encC
  | [], l, h => by cases h; rfl
  | x :: r, l, h => by
    unfold decCs at h
    split at h
    · rename_i c l' h1 h2
      cases h
      rw [List.map_cons, ← decCs_eq h2]
      congr 1
      cases x <;> simp [decC1] at h1
      rw [intsOf_eq h1]
      rfl
    · cases h
def okCs (m : Nat) (l : List (List Int)) : Bool := (l.all fun c => decide (c.length = m) && c.all fun z => decide (-1 ≤ z ∧ z ≤ 1)) && (decide l.Nodup && (decide (1 ≤ l.length) && decide (l.length ≤ 12)))
theorem okCs_ok {m : Nat} {l : List (List Int)} (h : okCs m l = true) : CasesOk m l := by
  unfold okCs at h
  simp only [Bool.and_eq_true, decide_eq_true_eq, List.all_eq_true] at h
  exact ⟨fun c hc => ⟨(h.1 c hc).1, fun z hz => (h.1 c hc).2 z hz⟩, h.2.1, h.2.2.1, h.2.2.2⟩
def dueOk (m : Nat) (l : List (List Int)) (d : D) : Bool := match d, leastV m l with
  | .none, none => true
  | .int i, some L => decide (i = (L : Int))
  | _, _ => false
theorem dueOk_eq {m : Nat} {l : List (List Int)} {d : D} (h : dueOk m l d = true) : d = optI (leastV m l) := by
  unfold dueOk at h
  split at h
  · rename_i e
    rw [e]
    rfl
  · rename_i i L e
    rw [e, of_decide_eq_true h]
    rfl
  · cases h
def knownOk (m k : Nat) : Bool := match F__law_known [.int k, .int m] with
  | .ok (xs, d) => match decCs xs with
    | some l => okCs m l && dueOk m l d
    | none => false
  | _ => false
theorem known_of {m k : Nat} (h : knownOk m k = true) : ∃ l, CasesOk m l ∧ F__law_known [.int k, .int m] = .ok (l.map encC, optI (leastV m l)) := by
  unfold knownOk at h
  split at h
  · rename_i xs d e
    split at h
    · rename_i l hl
      rw [Bool.and_eq_true] at h
      exact ⟨l, okCs_ok h.1, by rw [e, decCs_eq hl, dueOk_eq h.2]⟩
    · cases h
  · cases h
set_option maxHeartbeats 0 in
theorem known2 : ([0, 1, 2, 3, 4, 5, 6].all fun k => knownOk 2 k) = true := by kernel_rfl
set_option maxHeartbeats 0 in
theorem known3 : ([0, 1, 2, 3, 4, 5, 6].all fun k => knownOk 3 k) = true := by kernel_rfl
set_option maxHeartbeats 0 in
theorem known4 : ([0, 1, 2, 3, 4, 5].all fun k => knownOk 4 k) = true := by kernel_rfl
set_option maxHeartbeats 0 in
theorem known5 : ([0, 1, 2, 3, 4, 5].all fun k => knownOk 5 k) = true := by kernel_rfl
theorem known_eq {m k : Nat} (hm : Many m) (hk : k < 6 ∨ (k = 6 ∧ m ≤ 3)) : ∃ l, CasesOk m l ∧ F__law_known [.int k, .int m] = .ok (l.map encC, optI (leastV m l)) := by
  refine known_of ?_
  rcases hm with rfl | rfl | rfl | rfl
  · exact List.all_eq_true.mp known2 k (by simp; omega)
  · exact List.all_eq_true.mp known3 k (by simp; omega)
  · exact List.all_eq_true.mp known4 k (by simp; omega)
  · exact List.all_eq_true.mp known5 k (by simp; omega)
/-! ### in a drawn order -/
theorem sx {k len : Nat} (h : k < len) : seqIndex? (k : Int) len = some k := by
  unfold seqIndex?
  simp
  omega
theorem erase_map {α β : Type} (f : α → β) : ∀ (l : List α) (i : Nat), (l.map f).eraseIdx i = (l.eraseIdx i).map f
  | [], i => by simp
  | a :: l, 0 => rfl
  | a :: l, i + 1 => by
    rw [List.map_cons, List.eraseIdx_cons_succ, List.eraseIdx_cons_succ, List.map_cons, erase_map f l i]
theorem erase_perm {α : Type} : ∀ {l : List α} {i : Nat} {a : α}, l[i]? = some a → l.Perm (a :: l.eraseIdx i)
  | [], i, a, h => by simp at h
  | b :: l, 0, a, h => by
    simp at h
    subst h
    exact List.Perm.refl _
  | b :: l, i + 1, a, h => by
    rw [List.eraseIdx_cons_succ]
    exact (List.Perm.cons b (erase_perm (by simpa using h))).trans (List.Perm.swap _ _ _)
theorem pop_step (num : Int) (s0 s1 s2 s4 s7 s8 : PL.Slot noObj) (l acc : List (List Int)) (hl : l ≠ []) (hl2 : l.length ≤ 12) (ha : acc.length < 100) : ∃ i c, l[i]? = some c ∧ g_law_L1 [s0, s1, s2, .own (l.map encC), s4, .own (acc.map encC), .val (.int num), s7, s8] = .ok (.nx, [s0, s1, s2, .own ((l.eraseIdx i).map encC), s4, .own ((acc ++ [c]).map encC), .val (.int (num / 3 + 5)), s7, s8]) := by
  have hp := List.length_pos_iff.mpr hl
  have h1 := Int.emod_nonneg num (show (l.length : Int) ≠ 0 by omega)
  have h2 := Int.emod_lt_of_pos num (show (0 : Int) < (l.length : Int) by omega)
  obtain ⟨i, ei⟩ : ∃ i : Nat, num % (l.length : Int) = (i : Int) := ⟨(num % (l.length : Int)).toNat, by omega⟩
  have hi : i < l.length := by omega
  refine ⟨i, l[i], List.getElem?_eq_getElem hi, ?_⟩
  have dm : dMod (.int num) (.int ((l.length : Nat) : Int)) = .ok (.int (i : Nat)) := by
    have e : ∀ i j : Int, dMod (.int i) (.int j) = if 0 < j then R.ok (.int (i % j)) else .stuck := fun _ _ => rfl
    rw [e, if_pos (by omega), ei]
  have dd : dDiv (.int num) (.int 3) = .ok (.int (num / 3)) := rfl
  have da : dAdd (.int (num / 3)) (.int 5) = .ok (.int (num / 3 + 5)) := rfl
  have bd : (-1000000 ≤ ((i : Nat) : Int) ∧ ((i : Nat) : Int) ≤ 1000000) := by omega
  have gi : (l.map encC)[i]? = some (encC l[i]) := by
    rw [List.getElem?_map, List.getElem?_eq_getElem hi]
    rfl
  have ha' : acc.length < 100000 := by omega
  have ei' : (l.map encC).eraseIdx i = (l.eraseIdx i).map encC := erase_map _ _ _
  unfold g_law_L1
  simp only [dIx_t0, dIx_t1, dIx_l0, dIx_l1, toItems, itemsOf, runF, runL, startE, endF, endL, R.bind_ok, R.bind_exc, R.bind_stuck, gSeq, gIf, gSet, gOwn, gRet, gRetL, gRetO, gDrop, gTgt, gT, gsC, gsN, gN, gFor, gApp, gExt, gFrz, gNil, gExc, eVar, eC, e1, e2, eA, aNil, aCons, eTup, eLst, eCall, lCall, listR, eChain, tV, tAndD, tOrD, tNotD, eAnd, eOr, eNot, eIf, eL, lDisp, lList, lRep, oNone, oSome, eSl, iSeq, iRng1, iRng2, iZipD, iEnumD, iRevD, lListRange, lLc, eSorted, eSortSet, eLenSet, eBor, tBor, tYesD, noE, toB, dCmp, dSub, dNeg, dInt, dLen, dIs, dIsNot, List.map_cons, List.map_nil, List.length_cons, List.length_nil, Nat.reduceAdd, Nat.reduceSub, Nat.reduceLeDiff, List.replicate, List.cons_append, List.nil_append, List.append_nil, List.getElem?_cons_zero, List.getElem?_cons_succ, List.set_cons_zero, List.set_cons_succ, if_true, if_false, reduceIte, Bool.not_true, Bool.not_false, Bool.false_eq_true, reduceCtorEq, noObjs_true, List.length_map, dm, gAppPop, scal1, bd, sx hi, gi, ha', dd, da, ei', List.map_append, and_self, if_neg (show ¬ ((5 : Nat) = 3) by decide)]
theorem pop_loop (s0 s1 s2 s4 s7 s8 : PL.Slot noObj) : ∀ (n fuel : Nat) (num : Int) (l acc : List (List Int)), l.length = n → n < fuel → n ≤ 12 → acc.length + n < 100 →
    ∃ (num' : Int) (r : List (List Int)), r.Perm l ∧ whileF (tBor 3 (tV (e2 dNe (eVar 3) (eLst aNil)))) g_law_L1 fuel [s0, s1, s2, .own (l.map encC), s4, .own (acc.map encC), .val (.int num), s7, s8] = .ok (.nx, [s0, s1, s2, .own [], s4, .own ((acc ++ r).map encC), .val (.int num'), s7, s8])
  | n, 0, _, _, _, _, hf, _, _ => absurd hf (Nat.not_lt_zero _)
  | 0, fuel + 1, num, l, acc, hl, _, _, _ => by
    have e : l = [] := List.length_eq_zero_iff.mp hl
    subst e
    refine ⟨num, [], List.Perm.refl _, ?_⟩
    have d0 : dNe (.list []) (.list []) = .ok (.bool false) := rfl
    unfold whileF
    simp only [dIx_t0, dIx_t1, dIx_l0, dIx_l1, toItems, itemsOf, runF, runL, startE, endF, endL, R.bind_ok, R.bind_exc, R.bind_stuck, gSeq, gIf, gSet, gOwn, gRet, gRetL, gRetO, gDrop, gTgt, gT, gsC, gsN, gN, gFor, gApp, gExt, gFrz, gNil, gExc, eVar, eC, e1, e2, eA, aNil, aCons, eTup, eLst, eCall, lCall, listR, eChain, tV, tAndD, tOrD, tNotD, eAnd, eOr, eNot, eIf, eL, lDisp, lList, lRep, oNone, oSome, eSl, iSeq, iRng1, iRng2, iZipD, iEnumD, iRevD, lListRange, lLc, eSorted, eSortSet, eLenSet, eBor, tBor, tYesD, noE, toB, dCmp, dSub, dNeg, dInt, dLen, dIs, dIsNot, List.map_cons, List.map_nil, List.length_cons, List.length_nil, Nat.reduceAdd, Nat.reduceSub, Nat.reduceLeDiff, List.replicate, List.cons_append, List.nil_append, List.append_nil, List.getElem?_cons_zero, List.getElem?_cons_succ, List.set_cons_zero, List.set_cons_succ, if_true, if_false, reduceIte, Bool.not_true, Bool.not_false, Bool.false_eq_true, reduceCtorEq, noObjs_true, d0]
  | n + 1, fuel + 1, num, l, acc, hl, hf, h12, ha => by
    have hne : l ≠ [] := fun z => by rw [z] at hl; simp at hl
    obtain ⟨i, c, hc, es⟩ := pop_step num s0 s1 s2 s4 s7 s8 l acc hne (by omega) (by omega)
    have hi := (List.getElem?_eq_some_iff.mp hc).1
    obtain ⟨num', r, hr, el⟩ := pop_loop s0 s1 s2 s4 s7 s8 n fuel (num / 3 + 5) (l.eraseIdx i) (acc ++ [c]) (by rw [List.length_eraseIdx_of_lt hi]; omega) (by omega) (by omega) (by simp; omega)
    refine ⟨num', c :: r, (List.Perm.cons c hr).trans (erase_perm hc).symm, ?_⟩
    have ie : l.isEmpty = false := by cases l with
      | nil => exact absurd rfl hne
      | cons _ _ => rfl
    rw [List.append_assoc] at el
    unfold whileF
    simp only [dIx_t0, dIx_t1, dIx_l0, dIx_l1, toItems, itemsOf, runF, runL, startE, endF, endL, R.bind_ok, R.bind_exc, R.bind_stuck, gSeq, gIf, gSet, gOwn, gRet, gRetL, gRetO, gDrop, gTgt, gT, gsC, gsN, gN, gFor, gApp, gExt, gFrz, gNil, gExc, eVar, eC, e1, e2, eA, aNil, aCons, eTup, eLst, eCall, lCall, listR, eChain, tV, tAndD, tOrD, tNotD, eAnd, eOr, eNot, eIf, eL, lDisp, lList, lRep, oNone, oSome, eSl, iSeq, iRng1, iRng2, iZipD, iEnumD, iRevD, lListRange, lLc, eSorted, eSortSet, eLenSet, eBor, tBor, tYesD, noE, toB, dCmp, dSub, dNeg, dInt, dLen, dIs, dIsNot, List.map_cons, List.map_nil, List.length_cons, List.length_nil, Nat.reduceAdd, Nat.reduceSub, Nat.reduceLeDiff, List.replicate, List.cons_append, List.nil_append, List.append_nil, List.getElem?_cons_zero, List.getElem?_cons_succ, List.set_cons_zero, List.set_cons_succ, if_true, if_false, reduceIte, Bool.not_true, Bool.not_false, Bool.false_eq_true, reduceCtorEq, noObjs_true, dNe_nil, ie, es]
    exact el
theorem perm_ok {m : Nat} {l r : List (List Int)} (h : CasesOk m l) (hp : r.Perm l) : CasesOk m r :=
  ⟨fun c hc => h.ok c (hp.mem_iff.mp hc), hp.nodup_iff.mpr h.nd, by rw [hp.length_eq]; exact h.pos, by rw [hp.length_eq]; exact h.le⟩
end W

set_option Elab.async false
set_option linter.all false
set_option maxRecDepth 100000
set_option maxHeartbeats 2000000
namespace W
open PySem PL
theorem dNe_same {x : D} (h : sh 60 x) : dNe x x = .ok (.bool false) := by
  rw [dNe_sh h h, SeqAt.eqv_refl _ h.1]
  rfl
theorem dEq_same {x : D} (h : sh 60 x) : dEq x x = .ok (.bool true) := by
  rw [dEq_sh h h, SeqAt.eqv_refl _ h.1]
theorem okAlike : PyData.strOk sAlike = true := by decide +kernel
theorem okPlan : PyData.strOk sPlan = true := by decide +kernel
theorem law_true (ns : List Int) : F_law [scriptD ns] = .ok (.bool true) := by
  have ce := cell_eq ns 0 (by decide)
  -- how many things, which kind
  obtain ⟨m, k, pc, hm, hk⟩ : ∃ m k : Nat, (∀ s3 s4 s5 s6 s7 s8 : PL.Slot noObj, ((gIf (tV (e2 dEq (eVar 2) (eC (.int 6)))) (gSet 1 (eA dMin (aCons (eVar 1) (aCons (eC (.int 3)) aNil)))) gNil : GS noObj)
      [.val (scriptD ns), .val (.int (2 + cellI ns 0 % 4)), .val (.int (cellI ns 0 / 4 % 7)), s3, s4, s5, s6, s7, s8] =
      .ok (.nx, [.val (scriptD ns), .val (.int m), .val (.int k), s3, s4, s5, s6, s7, s8]))) ∧ Many m ∧ (k < 6 ∨ (k = 6 ∧ m ≤ 3)) := by
    generalize cellI ns 0 = z
    obtain ⟨a, ea, ha⟩ : ∃ a : Nat, 2 + z % 4 = (a : Int) ∧ Many a := ⟨(2 + z % 4).toNat, by omega, by unfold Many; omega⟩
    obtain ⟨k, ek, hk⟩ : ∃ k : Nat, z / 4 % 7 = (k : Int) ∧ k ≤ 6 := ⟨(z / 4 % 7).toNat, by omega, by omega⟩
    rw [ea, ek]
    by_cases h6 : k = 6
    · have d6 : dEq (.int (k : Int)) (.int 6) = .ok (.bool true) := by rw [dEq_int, decide_eq_true (by omega)]
      by_cases h3 : (3 : Int) < (a : Int)
      · have dm : dMin [.int (a : Int), .int 3] = .ok (.int ((3 : Nat) : Int)) := by
          simp only [dMin, if_pos h3]
          rfl
        exact ⟨3, k, fun s3 s4 s5 s6 s7 s8 => by simp only [dIx_t0, dIx_t1, dIx_l0, dIx_l1, toItems, itemsOf, runF, runL, startE, endF, endL, R.bind_ok, R.bind_exc, R.bind_stuck, gSeq, gIf, gSet, gOwn, gRet, gRetL, gRetO, gDrop, gTgt, gT, gsC, gsN, gN, gFor, gApp, gExt, gFrz, gNil, gExc, eVar, eC, e1, e2, eA, aNil, aCons, eTup, eLst, eCall, lCall, listR, eChain, tV, tAndD, tOrD, tNotD, eAnd, eOr, eNot, eIf, eL, lDisp, lList, lRep, oNone, oSome, eSl, iSeq, iRng1, iRng2, iZipD, iEnumD, iRevD, lListRange, lLc, eSorted, eSortSet, eLenSet, eBor, tBor, tYesD, noE, toB, dCmp, dSub, dNeg, dInt, dLen, dIs, dIsNot, List.map_cons, List.map_nil, List.length_cons, List.length_nil, Nat.reduceAdd, Nat.reduceSub, Nat.reduceLeDiff, List.replicate, List.cons_append, List.nil_append, List.append_nil, List.getElem?_cons_zero, List.getElem?_cons_succ, List.set_cons_zero, List.set_cons_succ, if_true, if_false, reduceIte, Bool.not_true, Bool.not_false, Bool.false_eq_true, reduceCtorEq, d6, dm], .inr (.inl rfl), .inr ⟨h6, by decide⟩⟩
      · have dm : dMin [.int (a : Int), .int 3] = .ok (.int (a : Int)) := by simp only [dMin, if_neg h3]
        exact ⟨a, k, fun s3 s4 s5 s6 s7 s8 => by simp only [dIx_t0, dIx_t1, dIx_l0, dIx_l1, toItems, itemsOf, runF, runL, startE, endF, endL, R.bind_ok, R.bind_exc, R.bind_stuck, gSeq, gIf, gSet, gOwn, gRet, gRetL, gRetO, gDrop, gTgt, gT, gsC, gsN, gN, gFor, gApp, gExt, gFrz, gNil, gExc, eVar, eC, e1, e2, eA, aNil, aCons, eTup, eLst, eCall, lCall, listR, eChain, tV, tAndD, tOrD, tNotD, eAnd, eOr, eNot, eIf, eL, lDisp, lList, lRep, oNone, oSome, eSl, iSeq, iRng1, iRng2, iZipD, iEnumD, iRevD, lListRange, lLc, eSorted, eSortSet, eLenSet, eBor, tBor, tYesD, noE, toB, dCmp, dSub, dNeg, dInt, dLen, dIs, dIsNot, List.map_cons, List.map_nil, List.length_cons, List.length_nil, Nat.reduceAdd, Nat.reduceSub, Nat.reduceLeDiff, List.replicate, List.cons_append, List.nil_append, List.append_nil, List.getElem?_cons_zero, List.getElem?_cons_succ, List.set_cons_zero, List.set_cons_succ, if_true, if_false, reduceIte, Bool.not_true, Bool.not_false, Bool.false_eq_true, reduceCtorEq, d6, dm], ha, .inr ⟨h6, by omega⟩⟩
    · have d6 : dEq (.int (k : Int)) (.int 6) = .ok (.bool false) := by rw [dEq_int, decide_eq_false (by omega)]
      exact ⟨a, k, fun s3 s4 s5 s6 s7 s8 => by simp only [dIx_t0, dIx_t1, dIx_l0, dIx_l1, toItems, itemsOf, runF, runL, startE, endF, endL, R.bind_ok, R.bind_exc, R.bind_stuck, gSeq, gIf, gSet, gOwn, gRet, gRetL, gRetO, gDrop, gTgt, gT, gsC, gsN, gN, gFor, gApp, gExt, gFrz, gNil, gExc, eVar, eC, e1, e2, eA, aNil, aCons, eTup, eLst, eCall, lCall, listR, eChain, tV, tAndD, tOrD, tNotD, eAnd, eOr, eNot, eIf, eL, lDisp, lList, lRep, oNone, oSome, eSl, iSeq, iRng1, iRng2, iZipD, iEnumD, iRevD, lListRange, lLc, eSorted, eSortSet, eLenSet, eBor, tBor, tYesD, noE, toB, dCmp, dSub, dNeg, dInt, dLen, dIs, dIsNot, List.map_cons, List.map_nil, List.length_cons, List.length_nil, Nat.reduceAdd, Nat.reduceSub, Nat.reduceLeDiff, List.replicate, List.cons_append, List.nil_append, List.append_nil, List.getElem?_cons_zero, List.getElem?_cons_succ, List.set_cons_zero, List.set_cons_succ, if_true, if_false, reduceIte, Bool.not_true, Bool.not_false, Bool.false_eq_true, reduceCtorEq, d6], ha, .inl (by omega)⟩
  obtain ⟨l, hl, pk⟩ := known_eq hm hk
  have mx := mixed_eq ns 1 (by decide)
  have lp := fun s0 s1 s2 s4 s7 s8 => pop_loop s0 s1 s2 s4 s7 s8 l.length 60 (mixI ns 1) l [] rfl (by have := hl.le; omega) hl.le (by have := hl.le; simp; omega)
  obtain ⟨num', r, hr, el⟩ := lp (.val (scriptD ns)) (.val (.int m)) (.val (.int k)) (.val (optI (leastV m l))) .no .no
  rw [List.nil_append, List.map_nil] at el
  have hR := perm_ok hl hr
  have lv := leastV_perm (m := m) hr
  have hne : r ≠ [] := List.length_pos_iff.mp hR.pos
  have lst : ∀ xs : List D, dList [.list xs] = .ok (.list xs) := fun _ => rfl
  have c1 : dMod (.int (cellI ns 0)) (.int 4) = .ok (.int (cellI ns 0 % 4)) := rfl
  have c2 : dAdd (.int 2) (.int (cellI ns 0 % 4)) = .ok (.int (2 + cellI ns 0 % 4)) := rfl
  have c3 : dDiv (.int (cellI ns 0)) (.int 4) = .ok (.int (cellI ns 0 / 4)) := rfl
  have c4 : dMod (.int (cellI ns 0 / 4)) (.int 7) = .ok (.int (cellI ns 0 / 4 % 7)) := rfl
  have oo : ∀ l : List (List Int), openI [] l = l := fun l => by simp [openI]
  have tl := told_least hm hR (ds := []) (fun x h => (List.not_mem_nil h).elim) (by decide)
  rw [oo] at tl
  simp only [List.map_nil] at tl
  have i0 : dInt [.bool false] = .ok (.int 0) := rfl
  have i1 : dInt [.bool true] = .ok (.int 1) := rfl
  unfold F_law g_law
  generalize hG0 : (gIf (tV (e2 dEq (eVar 2) (eC (.int 6)))) (gSet 1 (eA dMin (aCons (eVar 1) (aCons (eC (.int 3)) aNil)))) gNil : GS noObj) = G0 at pc ⊢
  rcases tl with ⟨he, _, _⟩ | ⟨i, k', a, b, hik, ha, hb, hw, t1, t2⟩ | ⟨he, L, q, h, p, t1, t2⟩
  · exact absurd he hne
  · have l0 : leastV m l = none := by rw [← lv]; exact leastV_alike hik ha hb hw
    rw [l0] at pk el
    simp only [optI] at pk el
    have ne : dNe (.str sAlike) (.str sAlike) = .ok (.bool false) := dNe_word _ okAlike
    simp only [dIx_t0, dIx_t1, dIx_l0, dIx_l1, toItems, itemsOf, runF, runL, startE, endF, endL, R.bind_ok, R.bind_exc, R.bind_stuck, gSeq, gIf, gSet, gOwn, gRet, gRetL, gRetO, gDrop, gTgt, gT, gsC, gsN, gN, gFor, gApp, gExt, gFrz, gNil, gExc, eVar, eC, e1, e2, eA, aNil, aCons, eTup, eLst, eCall, lCall, listR, eChain, tV, tAndD, tOrD, tNotD, eAnd, eOr, eNot, eIf, eL, lDisp, lList, lRep, oNone, oSome, eSl, iSeq, iRng1, iRng2, iZipD, iEnumD, iRevD, lListRange, lLc, eSorted, eSortSet, eLenSet, eBor, tBor, tYesD, noE, toB, dCmp, dSub, dNeg, dInt, dLen, dIs, dIsNot, List.map_cons, List.map_nil, List.length_cons, List.length_nil, Nat.reduceAdd, Nat.reduceSub, Nat.reduceLeDiff, List.replicate, List.cons_append, List.nil_append, List.append_nil, List.getElem?_cons_zero, List.getElem?_cons_succ, List.set_cons_zero, List.set_cons_succ, if_true, if_false, reduceIte, Bool.not_true, Bool.not_false, Bool.false_eq_true, reduceCtorEq, ce, c1, c2, c3, c4, pc, gTgtP, pk, mx, el, lst, t1, t2, i1, ne]
  · have l0 : leastV m l = some L := by rw [← lv]; exact least_leastV he p.least
    rw [l0] at pk el
    simp only [optI] at pk el
    have l11 := p.least.le
    have hq := p.hgt
    have ol := hR.le
    have ne : dNe (.str sPlan) (.str sPlan) = .ok (.bool false) := dNe_word _ okPlan
    have wl := law_whole_int (L : Int)
    have ni : dNe (.int (L : Int)) (.int (L : Int)) = .ok (.bool false) := dNe_same (sh_int _)
    have m30 : m ≤ 30 := by have := many25 hm; omega
    have pl : F__law_is_plan 40 [.int m, .list (r.map encC), encP q] = .ok (.bool true) := by
      rw [F__law_is_plan_eq (hgt q) 40 (encP q) (by omega) (valid_fine m30 q (hgt q) r hR.ok (Nat.le_refl _) p.valid) r hR.ok (by omega), valid_pass q (hgt q) r hR.ok hne (Nat.le_refl _) p.valid]
    have ln : F__law_length 40 [encP q] = .ok (.int (L : Nat)) := by
      rw [← hq]
      exact length_ok (F := F__law_length) (fun n => rfl) q 40 r hne (by omega) p.valid
    have i2 : dIx (.tuple [.str sPlan, encP q, h]) (.int 2) = .ok h := ix2 _ _ _ _
    rcases p.hold with ⟨hz, rfl⟩ | ⟨hp, hh⟩
    · subst hz
      have z0 : dEq (.int ((0 : Nat) : Int)) (.int 0) = .ok (.bool true) := by rw [dEq_int]; rfl
      obtain ⟨c, hc, rfl⟩ : ∃ c, r = [c] ∧ q = .told c := by
        cases q with
        | none => exact absurd p.valid hne
        | told c => exact ⟨c, p.valid, rfl⟩
        | weigh w l e r' => simp [hgt] at hq
      have q0 : dIx (.list (r.map encC)) (.int 0) = .ok (encC c) := by rw [hc]; exact dIx_l0 _ _
      have qe : dEq (encP (.told c)) (.tuple [.str sTold, encC c]) = .ok (.bool true) := dEq_same (sh_up (sh_tuple (n := 1) fun x hx => by
        simp only [List.mem_cons, List.not_mem_nil, or_false] at hx
        rcases hx with rfl | rfl
        · exact sh_str (by rw [PyData.canLay0]; exact okTold)
        · exact encC_sh c) (by decide))
      simp only [dIx_t0, dIx_t1, dIx_l0, dIx_l1, toItems, itemsOf, runF, runL, startE, endF, endL, R.bind_ok, R.bind_exc, R.bind_stuck, gSeq, gIf, gSet, gOwn, gRet, gRetL, gRetO, gDrop, gTgt, gT, gsC, gsN, gN, gFor, gApp, gExt, gFrz, gNil, gExc, eVar, eC, e1, e2, eA, aNil, aCons, eTup, eLst, eCall, lCall, listR, eChain, tV, tAndD, tOrD, tNotD, eAnd, eOr, eNot, eIf, eL, lDisp, lList, lRep, oNone, oSome, eSl, iSeq, iRng1, iRng2, iZipD, iEnumD, iRevD, lListRange, lLc, eSorted, eSortSet, eLenSet, eBor, tBor, tYesD, noE, toB, dCmp, dSub, dNeg, dInt, dLen, dIs, dIsNot, List.map_cons, List.map_nil, List.length_cons, List.length_nil, Nat.reduceAdd, Nat.reduceSub, Nat.reduceLeDiff, List.replicate, List.cons_append, List.nil_append, List.append_nil, List.getElem?_cons_zero, List.getElem?_cons_succ, List.set_cons_zero, List.set_cons_succ, if_true, if_false, reduceIte, Bool.not_true, Bool.not_false, Bool.false_eq_true, reduceCtorEq, ce, c1, c2, c3, c4, pc, gTgtP, pk, mx, el, lst, t1, t2, i0, ne, wl, ni, pl, ln, z0, q0, qe, i2]
    · have z0 : dEq (.int (L : Int)) (.int 0) = .ok (.bool false) := by rw [dEq_int, decide_eq_false (by omega)]
      have q3 : (L : Int) - 1 = ((L - 1 : Nat) : Int) := by omega
      have hd : F__law_is_hold 20 [.list ((Ws m).map encW), .list (r.map encC), .int ((L - 1 : Nat) : Int), h] = .ok (.bool true) := by
        rw [F__law_is_hold_eq (m := m) (fun w hw => wsOk hm hw) (by have := (Ws_len hm).2; omega) (L - 1) 20 (L - 1) h (by omega) (by omega) hh.2 r hR.ok (by omega), hh.1]
      have p4 := pans_eq hm
      simp only [dIx_t0, dIx_t1, dIx_l0, dIx_l1, toItems, itemsOf, runF, runL, startE, endF, endL, R.bind_ok, R.bind_exc, R.bind_stuck, gSeq, gIf, gSet, gOwn, gRet, gRetL, gRetO, gDrop, gTgt, gT, gsC, gsN, gN, gFor, gApp, gExt, gFrz, gNil, gExc, eVar, eC, e1, e2, eA, aNil, aCons, eTup, eLst, eCall, lCall, listR, eChain, tV, tAndD, tOrD, tNotD, eAnd, eOr, eNot, eIf, eL, lDisp, lList, lRep, oNone, oSome, eSl, iSeq, iRng1, iRng2, iZipD, iEnumD, iRevD, lListRange, lLc, eSorted, eSortSet, eLenSet, eBor, tBor, tYesD, noE, toB, dCmp, dSub, dNeg, dInt, dLen, dIs, dIsNot, List.map_cons, List.map_nil, List.length_cons, List.length_nil, Nat.reduceAdd, Nat.reduceSub, Nat.reduceLeDiff, List.replicate, List.cons_append, List.nil_append, List.append_nil, List.getElem?_cons_zero, List.getElem?_cons_succ, List.set_cons_zero, List.set_cons_succ, if_true, if_false, reduceIte, Bool.not_true, Bool.not_false, Bool.false_eq_true, reduceCtorEq, ce, c1, c2, c3, c4, pc, gTgtP, pk, mx, el, lst, t1, t2, i0, ne, wl, ni, pl, ln, z0, i2, q3, hd, p4]
end W

set_option Elab.async false
set_option linter.all false
set_option maxRecDepth 100000
set_option maxHeartbeats 4000000
namespace W
open PySem PySem.Spec PyProof.Rows L2 PL
abbrev Rw : PySem.W.OpenRow := PySem.W.OpenLaw.row PySem.Challenge.rw_panplan_k10_whole_known_cases
abbrev hk : PySem.W.Hook := hookX 5 fa fn ex
def ob (s : PySem.W.SharedT) : He.AlD := obX 5 fa fn ex (HandSHeadRun.getT s)
theorem ob_eq (s : PySem.W.SharedT) : ob s = hk.obs s.abs := obX_eq (HandSHeadRun.getT_eq s)
def loose0 : List Str := ["PanError", "BadCount", "BadCases", "BadDone", "LEAST_THINGS", "MOST_THINGS", "MOST_CASES", "is_among", "need_many", "is_case", "need_cases", "is_pan", "is_weighing", "rising_tuples", "leading", "came", "OUTCOMES", "threes", "is_many", "MOST_DONE", "is_done", "need_done", "still_open", "Search", "told", "least", "_law_cell_at", "_law_mixed", "_law_whole", "_law_came"]
def loose1 : List Str := ["_law_pans", "_law_is_pan", "_law_is_weighing", "_law_is_case_told", "_law_is_plan", "_law_length", "_law_threes", "_law_is_hold", "_law_two", "_law_one", "_law_any", "_law_known"]
def loose : List Str := loose0 ++ loose1
set_option maxHeartbeats 0 in
theorem run (w : World) : HandSHeadRun.RunEq Rw (PySem.W.view Rw.prog [49]) hk ob 3000 loose w := by
  intro os
  kernel_rfl
end W
open PySem PySem.W PySem.Calls PyProof.Rows
set_option maxHeartbeats 0 in
theorem PySem.Challenge.cw_panplan_k10_whole_known_cases_holds : PySem.Challenge.rw_panplan_k10_whole_known_cases.Holds := by
  w_on; o_law
  refine HandSHeadRun.head_any (r := W.Rw) (q := view W.Rw.prog [49]) (H := W.hk) (ob := W.ob) (M := 3000) (loose := W.loose) (d := HandSHeadRun.topDef W.Rw.prog 49) (kwd := []) W.ob_eq
    (by kernel_rfl) (fun s => by kernel_rfl) W.run (by kernel_rfl) (by kernel_rfl) (by kernel_rfl) (by rfl)
    (by first | assumption | decide +kernel) (by decide +kernel) ⟨rfl, rfl, rfl, rfl, rfl, by decide +kernel⟩ ?hw ?hc
  case hw => w_witness2
  case hc =>
    refine PL.walk_ofX (l := PySem.Challenge.rw_panplan_k10_whole_known_cases) (k := 94) (x := "_law_script") rfl (by kernel_rfl) ⟨rfl, by decide, by decide⟩ ?F
    intro w mg f h Yv Gv hm0
    obtain ⟨K, kx, c, hex⟩ := Yv
    have T : W.TF K mg := ⟨⟨c, h, kx, Gv⟩, hex⟩
    have hm : mg ("law" : PySem.Str) = some (.ref f) := by
      have e : (HandSHeadRun.topDef W.Rw.prog 49).name = ("law" : PySem.Str) := by kernel_rfl
      rw [← e]
      exact hm0
    have e := hm.symm.trans (T.glo 47)
    cases e
    obtain ⟨fd, FD⟩ := c.def_ 32 (d := W.dF "law" 49) rfl
    have b := L2.FunD.bindsA (ps := ["_law_script"]) FD fun _ _ _ _ _ _ us hl => match us, hl with | [_], _ => rfl
    exact ⟨K, fd, W.cA K, W.F_law, kx, fun s v => b s [v] rfl, W.law_true, fun base _ _ => W.ok_law T FD⟩

