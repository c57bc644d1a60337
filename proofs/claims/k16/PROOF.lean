import PyProof.Rows.All
import Wide.All
import OpenK.AllK
import Wide.FinOn
import HandS.Base
import HandS.Call
import HandS.List
import HandS.Comp
import HandS.Dict
import HandS.Iter
import HandS.Text
import HandS.Walk
import HandS.Flow
import HandS.Words
import HandS.Defaults
import HandS.Steps
import HandS.StrMore
import HandS.FStr
import HandS.IsInst
import HandS.Codes
import HandS.Wide
import HandS.Conv
import HandS.StrSplit
import HandS.HeadEnd
import HandS.HeadHook1
import HandS.HeadHook2
import HandS.Head0
import HandS.Head1
import HandS.Head2
import HandS.WordsExc
import HandS.More
import KE.IntTextLaws
import PySem.Challenge.RW_hopkeep_k16_wanted_ranges
set_option Elab.async false
set_option linter.all false
set_option maxRecDepth 100000
set_option maxHeartbeats 4000000
namespace Z
open PySem L2

/-! ## data that no longer changes: its reading in a part F of the heap -/
mutual
inductive Rp (K : PySem.W.Frag) (F : Hp) : V → PyData → Prop
  | non : Rp K F .non .none
  | bl (b : Bool) : Rp K F (.bl b) (.bool b)
  | int (i : Int) : Rp K F (.int i) (.int i)
  | str (x : Str) : Rp K F (.str x) (.str x)
  | lst {a : Addr} {xs : List V} {ds : List PyData} : F a = some (.lst xs) → RpAll K F xs ds → Rp K F (.ref a) (.list ds)
  | tup {a : Addr} {xs : List V} {ds : List PyData} : SqT K F a xs → RpAll K F xs ds → Rp K F (.ref a) (.tuple ds)
  | obj {a C dx : Addr} {vs : List (Str × V)} {fs : List (PyData × PyData)} : F a = some (.ins C dx vs) → RpFs K F vs fs → Rp K F (.ref a) (.dict ((.none, .int (C : Int)) :: fs))
inductive RpAll (K : PySem.W.Frag) (F : Hp) : List V → List PyData → Prop
  | nil : RpAll K F [] []
  | cons {v : V} {vs : List V} {d : PyData} {ds : List PyData} : Rp K F v d → RpAll K F vs ds → RpAll K F (v :: vs) (d :: ds)
inductive RpFs (K : PySem.W.Frag) (F : Hp) : List (Str × V) → List (PyData × PyData) → Prop
  | nil : RpFs K F [] []
  | cons {f : Str} {v : V} {vs : List (Str × V)} {d : PyData} {ds : List (PyData × PyData)} : Rp K F v d → RpFs K F vs ds → RpFs K F ((f, v) :: vs) ((.str f, d) :: ds)
end

/-- what a slot, an item, a field holds: data, an object that may still change, a list that is read only -/
inductive Ent where
  | d (x : PyData)
  | r (a : Addr)
  | w (x : List PyData)
  | t (n : String)

section
variable {K : PySem.W.Frag} {F F' F'' : Hp}
theorem sqT_mono (s : Same F F') {a : Addr} {xs : List V} (h : SqT K F a xs) : SqT K F' a xs := by
  rcases h with (h | ⟨o, h⟩) | h
  · exact .inl (.inl (s _ _ h))
  · exact .inl (.inr ⟨o, s _ _ h⟩)
  · exact .inr h
mutual
theorem Rp.mono (s : Same F F') : ∀ {v : V} {d : PyData}, Rp K F v d → Rp K F' v d
  | _, _, .non => .non
  | _, _, .bl b => .bl b
  | _, _, .int i => .int i
  | _, _, .str x => .str x
  | _, _, .lst h r => .lst (s _ _ h) (RpAll.mono s r)
  | _, _, .tup h r => .tup (sqT_mono s h) (RpAll.mono s r)
  | _, _, .obj h r => .obj (s _ _ h) (RpFs.mono s r)
theorem RpAll.mono (s : Same F F') : ∀ {vs : List V} {ds : List PyData}, RpAll K F vs ds → RpAll K F' vs ds
  | _, _, .nil => .nil
  | _, _, .cons h r => .cons (Rp.mono s h) (RpAll.mono s r)
theorem RpFs.mono (s : Same F F') : ∀ {vs : List (Str × V)} {ds : List (PyData × PyData)}, RpFs K F vs ds → RpFs K F' vs ds
  | _, _, .nil => .nil
  | _, _, .cons h r => .cons (Rp.mono s h) (RpFs.mono s r)
end
theorem RpAll.length : ∀ {vs : List V} {ds : List PyData}, RpAll K F vs ds → vs.length = ds.length
  | _, _, .nil => rfl
  | _, _, .cons _ r => congrArg Nat.succ (RpAll.length r)
theorem RpAll.get : ∀ {vs : List V} {ds : List PyData} {i : Nat} {v : V} {d : PyData}, RpAll K F vs ds → vs[i]? = some v → ds[i]? = some d → Rp K F v d
  | _, _, _, _, _, .nil, e, _ => by simp at e
  | _, _, 0, _, _, .cons h _, e1, e2 => by
    simp at e1 e2
    rw [← e1, ← e2]
    exact h
  | _, _, i + 1, _, _, .cons _ r, e1, e2 => RpAll.get (i := i) r (by simpa using e1) (by simpa using e2)
theorem RpAll.append : ∀ {vs ws : List V} {ds es : List PyData}, RpAll K F vs ds → RpAll K F ws es → RpAll K F (vs ++ ws) (ds ++ es)
  | _, _, _, _, .nil, q => q
  | _, _, _, _, .cons h r, q => .cons h (RpAll.append r q)
theorem RpAll.take : ∀ {vs : List V} {ds : List PyData} (n : Nat), RpAll K F vs ds → RpAll K F (vs.take n) (ds.take n)
  | _, _, 0, _ => .nil
  | _, _, _ + 1, .nil => .nil
  | _, _, n + 1, .cons h r => .cons h (RpAll.take n r)
theorem RpAll.drop : ∀ {vs : List V} {ds : List PyData} (n : Nat), RpAll K F vs ds → RpAll K F (vs.drop n) (ds.drop n)
  | _, _, 0, r => r
  | _, _, _ + 1, .nil => .nil
  | _, _, n + 1, .cons _ r => RpAll.drop n r
theorem RpAll.exGet {vs : List V} {ds : List PyData} {i : Nat} {d : PyData} (r : RpAll K F vs ds) (e : ds[i]? = some d) : ∃ v, vs[i]? = some v ∧ Rp K F v d := by
  have hi : i < vs.length := by
    rw [r.length]
    exact (List.getElem?_eq_some_iff.mp e).1
  exact ⟨vs[i], List.getElem?_eq_getElem hi, r.get (List.getElem?_eq_getElem hi) e⟩
theorem RpAll.ints : ∀ {vs : List V} {ns : List Int}, RpAll K F vs (ns.map PyData.int) → vs = ns.map V.int
  | _, [], .nil => rfl
  | _, n :: ns, .cons (.int _) r => congrArg (V.int n :: ·) (RpAll.ints r)
theorem RpAll.strs : ∀ {vs : List V} {ns : List Str}, RpAll K F vs (ns.map PyData.str) → vs = ns.map V.str
  | _, [], .nil => rfl
  | _, n :: ns, .cons (.str _) r => congrArg (V.str n :: ·) (RpAll.strs r)
theorem RpAll.bls : ∀ {vs : List V} {ns : List Bool}, RpAll K F vs (ns.map PyData.bool) → vs = ns.map V.bl
  | _, [], .nil => rfl
  | _, n :: ns, .cons (.bl _) r => congrArg (V.bl n :: ·) (RpAll.bls r)
theorem RpAll.ofInts : ∀ (ns : List Int), RpAll K F (ns.map V.int) (ns.map PyData.int)
  | [] => .nil
  | n :: ns => .cons (.int n) (RpAll.ofInts ns)
theorem RpAll.ofStrs : ∀ (ns : List Str), RpAll K F (ns.map V.str) (ns.map PyData.str)
  | [] => .nil
  | n :: ns => .cons (.str n) (RpAll.ofStrs ns)
theorem RpAll.ofBls : ∀ (ns : List Bool), RpAll K F (ns.map V.bl) (ns.map PyData.bool)
  | [] => .nil
  | n :: ns => .cons (.bl n) (RpAll.ofBls ns)

/-- no dict within (no object) -/
def flat : Nat → PyData → Bool
  | 0, _ => false
  | _ + 1, .list xs => false
  | _, .dict _ => false
  | _, _ => true
mutual
def noObj : PyData → Bool
  | .dict _ => false
  | .list xs => noObjs xs
  | .tuple xs => noObjs xs
  | _ => true
def noObjs : List PyData → Bool
  | [] => true
  | x :: r => noObj x && noObjs r
end
mutual
theorem Rp.dp : ∀ {v : V} {d : PyData}, Rp K F v d → noObj d = true → Dp K F v d
  | _, _, .non, _ => .non
  | _, _, .bl b, _ => .bl b
  | _, _, .int i, _ => .int i
  | _, _, .str x, _ => .str x
  | _, _, .lst h r, n => .lst (.inl (.inl h)) (RpAll.dp r n)
  | _, _, .tup h r, n => .tup h (RpAll.dp r n)
theorem RpAll.dp : ∀ {vs : List V} {ds : List PyData}, RpAll K F vs ds → noObjs ds = true → DpAll K F vs ds
  | _, _, .nil, _ => .nil
  | _, _, .cons h r, n => by
    have n2 : (_ && _) = true := n
    rw [Bool.and_eq_true] at n2
    exact .cons (Rp.dp h n2.1) (RpAll.dp r n2.2)
end
mutual
theorem dp_mono {H H' : Hp} (s : Same H H') : ∀ {v : V} {d : PyData}, Dp K H v d → Dp K H' v d
  | _, _, .non => .non
  | _, _, .bl b => .bl b
  | _, _, .int i => .int i
  | _, _, .str x => .str x
  | _, _, .lst h r => .lst (s.seq h) (dpAll_mono s r)
  | _, _, .tup h r => .tup (sqT_mono s h) (dpAll_mono s r)
theorem dpAll_mono {H H' : Hp} (s : Same H H') : ∀ {vs : List V} {ds : List PyData}, DpAll K H vs ds → DpAll K H' vs ds
  | _, _, .nil => .nil
  | _, _, .cons h r => .cons (dp_mono s h) (dpAll_mono s r)
end
end

/-! ## what a slot holds -/
def RE (K : PySem.W.Frag) (F : Hp) (v : V) : Ent → Prop
  | .d x => Rp K F v x
  | .r a => v = .ref a
  | .t n => v = .ty n
  | .w xs => ∃ a vs, v = .ref a ∧ SqL K F a vs ∧ RpAll K F vs xs
theorem RE.mono {K : PySem.W.Frag} {F F' : Hp} (s : Same F F') {v : V} : ∀ {e : Ent}, RE K F v e → RE K F' v e
  | .d _, h => Rp.mono s h
  | .r _, h => h
  | .t _, h => h
  | .w _, ⟨a, vs, e, h, r⟩ => ⟨a, vs, e, s.seq h, r.mono s⟩
abbrev REs (K : PySem.W.Frag) (F : Hp) : List V → List Ent → Prop := Paired (RE K F)
theorem REs.mono {K : PySem.W.Frag} {F F' : Hp} (s : Same F F') {vs : List V} {es : List Ent} (h : REs K F vs es) : REs K F' vs es := Paired.mapP h fun _ _ q => q.mono s
theorem REs.length {K : PySem.W.Frag} {F : Hp} {vs : List V} {es : List Ent} (h : REs K F vs es) : vs.length = es.length := Paired.length h
/-- a slot of a frame -/
def RO (K : PySem.W.Frag) (F : Hp) (o : Option V) : Option Ent → Prop
  | none => True
  | some e => ∃ v, o = some v ∧ RE K F v e
abbrev Ga := List (Option Ent)
abbrev EnvOk (K : PySem.W.Frag) (F : Hp) (σ : L2.St) (Γ : Ga) : Prop := Paired (RO K F) σ Γ
theorem EnvOk.mono {K : PySem.W.Frag} {F F' : Hp} (s : Same F F') {σ : L2.St} {Γ : Ga} (h : EnvOk K F σ Γ) : EnvOk K F' σ Γ := Paired.mapP h fun o g q => by
  cases g with
  | none => trivial
  | some e =>
    obtain ⟨v, e1, r⟩ := q
    exact ⟨v, e1, r.mono s⟩
theorem paired_get {α β : Type} {R : α → β → Prop} : ∀ {xs : List α} {ys : List β} {i : Nat} {y : β}, Paired R xs ys → ys[i]? = some y → ∃ x, xs[i]? = some x ∧ R x y
  | _, _, _, _, .nil, e => by simp at e
  | _, _, 0, y, .cons r _, e => by
    simp at e
    subst e
    exact ⟨_, rfl, r⟩
  | _, _, i + 1, y, .cons _ t, e => by
    obtain ⟨x, h1, h2⟩ := paired_get (i := i) (y := y) t (by simpa using e)
    exact ⟨x, by simpa using h1, h2⟩
theorem paired_set {α β : Type} {R : α → β → Prop} {x : α} {y : β} (r : R x y) : ∀ {xs : List α} {ys : List β} (i : Nat), Paired R xs ys → Paired R (xs.set i x) (ys.set i y)
  | _, _, _, .nil => .nil
  | _, _, 0, .cons _ t => .cons r t
  | _, _, i + 1, .cons q t => .cons q (paired_set r i t)
theorem EnvOk.set {K : PySem.W.Frag} {F : Hp} {σ : L2.St} {Γ : Ga} {v : V} {e : Ent} (h : EnvOk K F σ Γ) (i : Nat) (r : RE K F v e) : EnvOk K F (σ.set i (some v)) (Γ.set i (some e)) := paired_set (R := RO K F) (x := some v) (y := some e) ⟨v, rfl, r⟩ i h
theorem EnvOk.drop1 {K : PySem.W.Frag} {F : Hp} {σ : L2.St} {Γ : Ga} (h : EnvOk K F σ Γ) (i : Nat) : EnvOk K F σ (Γ.set i none) := by
  induction h generalizing i with
  | nil => exact .nil
  | cons q t ih =>
    cases i with
    | zero => exact .cons trivial t
    | succ i => exact .cons q (ih i)
theorem EnvOk.wipe1 {K : PySem.W.Frag} {F : Hp} {σ : L2.St} {Γ : Ga} (h : EnvOk K F σ Γ) (i : Nat) (o : Option V) : EnvOk K F (σ.set i o) (Γ.set i none) := paired_set (R := RO K F) (x := o) (y := none) trivial i h

/-! ## what may still change -/
inductive Mo where
  | lst (xs : List Ent)
  | ins (C : Addr) (fs : List (Str × Ent))
abbrev Ms := Addr → Option Mo
def MoOk (K : PySem.W.Frag) (F : Hp) : HO → Mo → Prop
  | .lst vs, .lst es => REs K F vs es
  | .ins C _ vs, .ins C' fs => C = C' ∧ Paired (fun (p : Str × V) (q : Str × Ent) => p.1 = q.1 ∧ RE K F p.2 q.2) vs fs
  | _, _ => False
theorem MoOk.mono {K : PySem.W.Frag} {F F' : Hp} (s : Same F F') : ∀ {o : HO} {m : Mo}, MoOk K F o m → MoOk K F' o m
  | .lst _, .lst _, h => REs.mono s h
  | .ins _ _ _, .ins _ _, ⟨e, h⟩ => ⟨e, Paired.mapP h fun _ _ q => ⟨q.1, q.2.mono s⟩⟩
  | .lst _, .ins _ _, h => h.elim
  | .ins _ _ _, .lst _, h => h.elim
  | .tup _, m, h => by cases m <;> exact h.elim
  | .dK _, m, h => by cases m <;> exact h.elim
  | .dT _, m, h => by cases m <;> exact h.elim
  | .set _ _, m, h => by cases m <;> exact h.elim
  | .own _, m, h => by cases m <;> exact h.elim
  | .xd _, m, h => by cases m <;> exact h.elim
  | .met _ _, m, h => by cases m <;> exact h.elim
  | .rng _ _, m, h => by cases m <;> exact h.elim
  | .frz _ _, m, h => by cases m <;> exact h.elim
  | .tbl _, m, h => by cases m <;> exact h.elim
  | .ext _, m, h => by cases m <;> exact h.elim
/-- the heap: F stands, M is told, Z is another's -/
structure Mem (K : PySem.W.Frag) (F : Hp) (M : Ms) (Z H : Hp) : Prop where
  sub : Same F H
  chg : ∀ a m, M a = some m → F a = none ∧ ∃ o, H a = some o ∧ MoOk K F o m
  out : ∀ a o, Z a = some o → H a = some o ∧ F a = none ∧ M a = none
def um (M : Ms) (a : Addr) (m : Mo) : Ms := fun b => if b = a then some m else M b
theorem um_same {M : Ms} {a : Addr} {m : Mo} : um M a m a = some m := by unfold um; rw [if_pos rfl]
theorem um_ne {M : Ms} {a b : Addr} {m : Mo} (h : b ≠ a) : um M a m b = M b := by unfold um; rw [if_neg h]
theorem um_um {M : Ms} {a : Addr} {m m' : Mo} : um (um M a m) a m' = um M a m' := by
  funext b
  unfold um
  split <;> rfl
theorem um_comm {M : Ms} {a b : Addr} {m m' : Mo} (h : a ≠ b) : um (um M a m) b m' = um (um M b m') a m := by
  funext c
  unfold um
  by_cases h1 : c = a
  · subst h1
    rw [if_neg h, if_pos rfl, if_pos rfl]
  · rw [if_neg h1, if_neg h1]
theorem um_id {M : Ms} {a : Addr} {m : Mo} (h : M a = some m) : um M a m = M := by
  funext b
  unfold um
  split
  · rename_i e
    rw [e, h]
  · rfl
theorem ne_of_um {M : Ms} {a b : Addr} {m : Mo} (h : um M a m b = none) : b ≠ a ∧ M b = none := by
  unfold um at h
  split at h
  · cases h
  · rename_i e
    exact ⟨e, h⟩
def SameM (M M' : Ms) : Prop := ∀ a m, M a = some m → M' a = some m
theorem SameM.refl (M : Ms) : SameM M M := fun _ _ h => h
theorem SameM.trans {M M1 M2 : Ms} (x : SameM M M1) (y : SameM M1 M2) : SameM M M2 := fun a m h => y a m (x a m h)
theorem SameM.um {M M' : Ms} {a : Addr} {m : Mo} (s : SameM M M') (h : M a = none) : SameM M (um M' a m) := fun b n e => by
  rw [um_ne (fun q => by rw [q, h] at e; cases e)]
  exact s b n e
theorem Mem.weak {K : PySem.W.Frag} {F H Z : Hp} {M M' : Ms} (h : Mem K F M' Z H) (s : SameM M M') : Mem K F M Z H := Mem.mk h.sub (fun a m e => h.chg a m (s a m e)) fun a o e => by
  obtain ⟨h1, h2, h3⟩ := h.out a o e
  refine ⟨h1, h2, ?_⟩
  cases q : M a with
  | none => rfl
  | some m =>
    rw [s a m q] at h3
    cases h3
section
variable {K : PySem.W.Frag} {F H Z : Hp} {M : Ms}
theorem Mem.zfree (h : Mem K F M Z H) {p : Addr} (n : H p = none) : Z p = none ∧ F p = none ∧ M p = none := by
  refine ⟨?_, h.sub.free n, ?_⟩
  · cases e : Z p with
    | none => rfl
    | some o =>
      rw [(h.out p o e).1] at n
      cases n
  · cases e : M p with
    | none => rfl
    | some q =>
      obtain ⟨_, o', h2, _⟩ := h.chg p q e
      rw [n] at h2
      cases h2
theorem Mem.znot (h : Mem K F M Z H) {p : Addr} {m : Mo} (t : M p = some m) : Z p = none := by
  cases e : Z p with
  | none => rfl
  | some o =>
    rw [(h.out p o e).2.2] at t
    cases t
/-- a new object that stands from now on -/
theorem Mem.newF (h : Mem K F M Z H) {p : Addr} {o : HO} (n : H p = none) : Same F (upd F p o) ∧ Mem K (upd F p o) M Z (upd H p o) := by
  obtain ⟨nZ, nF, nM⟩ := h.zfree n
  have s : Same F (upd F p o) := fun b u e => by
    rw [upd_ne (ne_of_none e nF)]
    exact e
  refine ⟨s, Mem.mk (fun b u e => ?_) (fun a m e => ?_) (fun a u e => ?_)⟩
  · by_cases hb : b = p
    · subst hb
      rw [upd_same] at e ⊢
      exact e
    · rw [upd_ne hb] at e ⊢
      exact h.sub b u e
  · obtain ⟨h1, o', h2, h3⟩ := h.chg a m e
    have na : a ≠ p := ne_of_none h2 n
    exact ⟨by rw [upd_ne na]; exact h1, o', by rw [upd_ne na]; exact h2, h3.mono s⟩
  · obtain ⟨h1, h2, h3⟩ := h.out a u e
    have na : a ≠ p := ne_of_none h1 n
    exact ⟨by rw [upd_ne na]; exact h1, by rw [upd_ne na]; exact h2, h3⟩
/-- a new object that nobody tells -/
theorem Mem.junk (h : Mem K F M Z H) {p : Addr} {o : HO} (n : H p = none) : Mem K F M Z (upd H p o) := by
  refine Mem.mk (fun b u e => ?_) (fun a m e => ?_) (fun a u e => ?_)
  · have q := h.sub b u e
    rw [upd_ne (ne_of_none q n)]
    exact q
  · obtain ⟨h1, o', h2, h3⟩ := h.chg a m e
    exact ⟨h1, o', by rw [upd_ne (ne_of_none h2 n)]; exact h2, h3⟩
  · obtain ⟨h1, h2, h3⟩ := h.out a u e
    exact ⟨by rw [upd_ne (ne_of_none h1 n)]; exact h1, h2, h3⟩
/-- a new object that may change -/
theorem Mem.newM (h : Mem K F M Z H) {p : Addr} {o : HO} {m : Mo} (n : H p = none) (ok : MoOk K F o m) : M p = none ∧ Mem K F (um M p m) Z (upd H p o) := by
  obtain ⟨nZ, nF, nM⟩ := h.zfree n
  refine ⟨nM, Mem.mk (fun b u e => ?_) (fun a m' e => ?_) (fun a u e => ?_)⟩
  · have q := h.sub b u e
    rw [upd_ne (ne_of_none q n)]
    exact q
  · by_cases hb : a = p
    · subst hb
      rw [um_same] at e
      cases e
      exact ⟨nF, o, upd_same, ok⟩
    · rw [um_ne hb] at e
      obtain ⟨h1, o', h2, h3⟩ := h.chg a m' e
      exact ⟨h1, o', by rw [upd_ne hb]; exact h2, h3⟩
  · obtain ⟨h1, h2, h3⟩ := h.out a u e
    have na : a ≠ p := ne_of_none h1 n
    exact ⟨by rw [upd_ne na]; exact h1, h2, by rw [um_ne na]; exact h3⟩
/-- a new object of another's -/
theorem Mem.newZ (h : Mem K F M Z H) {p : Addr} {o : HO} (n : H p = none) : Mem K F M (upd Z p o) (upd H p o) := by
  obtain ⟨nZ, nF, nM⟩ := h.zfree n
  refine Mem.mk (fun b u e => ?_) (fun a m e => ?_) (fun a u e => ?_)
  · have q := h.sub b u e
    rw [upd_ne (ne_of_none q n)]
    exact q
  · obtain ⟨h1, o', h2, h3⟩ := h.chg a m e
    exact ⟨h1, o', by rw [upd_ne (ne_of_none h2 n)]; exact h2, h3⟩
  · by_cases hb : a = p
    · subst hb
      rw [upd_same] at e
      cases e
      exact ⟨upd_same, nF, nM⟩
    · rw [upd_ne hb] at e
      obtain ⟨h1, h2, h3⟩ := h.out a u e
      exact ⟨by rw [upd_ne hb]; exact h1, h2, h3⟩
theorem Mem.writeZ (h : Mem K F M Z H) {p : Addr} {o u : HO} (t : Z p = some u) : Mem K F M (upd Z p o) (upd H p o) := by
  obtain ⟨nH, nF, nM⟩ := h.out p u t
  refine Mem.mk (fun b u e => ?_) (fun a m e => ?_) (fun a u e => ?_)
  · rw [upd_ne (ne_of_none e nF)]
    exact h.sub b u e
  · obtain ⟨h1, o', h2, h3⟩ := h.chg a m e
    have na : a ≠ p := fun q => by
      rw [q, nM] at e
      cases e
    exact ⟨h1, o', by rw [upd_ne na]; exact h2, h3⟩
  · by_cases hb : a = p
    · subst hb
      rw [upd_same] at e
      cases e
      exact ⟨upd_same, nF, nM⟩
    · rw [upd_ne hb] at e
      obtain ⟨h1, h2, h3⟩ := h.out a u e
      exact ⟨by rw [upd_ne hb]; exact h1, h2, h3⟩
/-- another's object becomes one that stands; the rest of Z as it was -/
theorem Mem.giveZ (h : Mem K F M (upd Z p o) H) (nZ : Z p = none) : Same F (upd F p o) ∧ Mem K (upd F p o) M Z H := by
  obtain ⟨nH, nF, nM⟩ := h.out p o upd_same
  have s : Same F (upd F p o) := fun b u e => by
    rw [upd_ne (ne_of_none e nF)]
    exact e
  refine ⟨s, Mem.mk (fun b u e => ?_) (fun a m e => ?_) (fun a u e => ?_)⟩
  · by_cases hb : b = p
    · subst hb
      rw [upd_same] at e
      cases e
      exact nH
    · rw [upd_ne hb] at e
      exact h.sub b u e
  · obtain ⟨h1, o', h2, h3⟩ := h.chg a m e
    have na : a ≠ p := fun q => by
      rw [q, nM] at e
      cases e
    exact ⟨by rw [upd_ne na]; exact h1, o', h2, h3.mono s⟩
  · have na : a ≠ p := ne_of_none e nZ
    obtain ⟨h1, h2, h3⟩ := h.out a u (by rw [upd_ne na]; exact e)
    exact ⟨h1, by rw [upd_ne na]; exact h2, h3⟩
/-- what may change does -/
theorem Mem.write (h : Mem K F M Z H) {p : Addr} {o : HO} {m m0 : Mo} (t : M p = some m0) (ok : MoOk K F o m) : Mem K F (um M p m) Z (upd H p o) := by
  obtain ⟨nF, _⟩ := h.chg p m0 t
  have nZ := h.znot t
  refine Mem.mk (fun b u e => ?_) (fun a m' e => ?_) (fun a u e => ?_)
  · rw [upd_ne (ne_of_none e nF)]
    exact h.sub b u e
  · by_cases hb : a = p
    · subst hb
      rw [um_same] at e
      cases e
      exact ⟨nF, o, upd_same, ok⟩
    · rw [um_ne hb] at e
      obtain ⟨h1, o', h2, h3⟩ := h.chg a m' e
      exact ⟨h1, o', by rw [upd_ne hb]; exact h2, h3⟩
  · have na : a ≠ p := ne_of_none e nZ
    obtain ⟨h1, h2, h3⟩ := h.out a u e
    exact ⟨by rw [upd_ne na]; exact h1, h2, by rw [um_ne na]; exact h3⟩
theorem Mem.list (h : Mem K F M Z H) {p : Addr} {es : List Ent} (t : M p = some (.lst es)) : ∃ vs, H p = some (.lst vs) ∧ REs K F vs es := by
  obtain ⟨_, o, h2, h3⟩ := h.chg p _ t
  cases o with
  | lst vs => exact ⟨vs, h2, h3⟩
  | _ => exact (h3 : False).elim
theorem Mem.inst (h : Mem K F M Z H) {p C : Addr} {fs : List (Str × Ent)} (t : M p = some (.ins C fs)) : ∃ dx vs, H p = some (.ins C dx vs) ∧ Paired (fun (p : Str × V) (q : Str × Ent) => p.1 = q.1 ∧ RE K F p.2 q.2) vs fs := by
  obtain ⟨_, o, h2, h3⟩ := h.chg p _ t
  cases o with
  | ins C' dx vs =>
    obtain ⟨e, q⟩ := h3
    subst e
    exact ⟨dx, vs, h2, q⟩
  | _ => exact (h3 : False).elim
end
def dl (M : Ms) (a : Addr) : Ms := fun b => if b = a then none else M b
theorem dl_um {M : Ms} {a : Addr} {m : Mo} (h : M a = none) : dl (um M a m) a = M := by
  funext b
  unfold dl um
  split
  · rename_i e
    rw [e, h]
  · rfl
/-- an object stops changing -/
theorem Mem.freeze {K : PySem.W.Frag} {F H Z : Hp} {M : Ms} (h : Mem K F M Z H) {p : Addr} {o : HO} {m : Mo} (t : M p = some m) (e : H p = some o) : Same F (upd F p o) ∧ Mem K (upd F p o) (dl M p) Z H := by
  obtain ⟨n, _⟩ := h.chg p m t
  have nZ := h.znot t
  have s : Same F (upd F p o) := fun b u q => by
    rw [upd_ne (ne_of_none q n)]
    exact q
  refine ⟨s, Mem.mk (fun b u q => ?_) (fun a m q => ?_) (fun a u q => ?_)⟩
  · by_cases hb : b = p
    · subst hb
      rw [upd_same] at q
      rw [e]
      exact q
    · rw [upd_ne hb] at q
      exact h.sub b u q
  · unfold dl at q
    split at q
    · cases q
    · rename_i hb
      obtain ⟨h1, o, h2, h3⟩ := h.chg a m q
      exact ⟨by rw [upd_ne hb]; exact h1, o, h2, h3.mono s⟩
  · have na : a ≠ p := ne_of_none q nZ
    obtain ⟨h1, h2, h3⟩ := h.out a u q
    refine ⟨h1, by rw [upd_ne na]; exact h2, ?_⟩
    unfold dl
    rw [if_neg na]
    exact h3
end Z
set_option Elab.async false
set_option linter.all false
set_option maxRecDepth 100000
set_option maxHeartbeats 4000000
namespace Z
open PySem PySem.Spec L2
/-! ## the judgements over data -/
/-- what is wanted of an exception: its class, its fields -/
abbrev Xa := Value → List (Str × Ent) → Ms → Prop
structure Jx where
  K : PySem.W.Frag
  E : XK
  X : Xa
def XdOk (K : PySem.W.Frag) (F H : Hp) : Option Addr → List (Str × Ent) → Prop
  | none, xs => xs = []
  | some d, xs => ∃ vs, H d = some (.xd vs) ∧ Paired (fun (p : Str × V) (q : Str × Ent) => p.1 = q.1 ∧ RE K F p.2 q.2) vs xs
def XR (J : Jx) (F Z : Hp) : Prop := ∀ F' H' M' c od xs, Same F F' → Mem J.K F' M' Z H' → J.X c xs M' → XdOk J.K F' H' od xs → J.E c od H'
theorem XR.mono {J : Jx} {F F' Z : Hp} (x : XR J F Z) (s : Same F F') : XR J F' Z := fun F2 H2 M2 c od xs s2 m q o => x F2 H2 M2 c od xs (s.trans s2) m q o
/-- an expression: its value, what may change -/
def Wx (J : Jx) (te : TE) (Γ : Ga) (M : Ms) (P : Ent → Ms → Prop) : Prop := ∀ F Z σ H, EnvOk J.K F σ Γ → Mem J.K F M Z H → XR J F Z → ∀ Q : VK,
  (∀ v F' H' e M', Same F F' → Mem J.K F' M' Z H' → RE J.K F' v e → P e M' → Q v H') → te σ H Q
def WA (J : Jx) (te : TA) (Γ : Ga) (M : Ms) (P : List Ent → Ms → Prop) : Prop := ∀ F Z σ H, EnvOk J.K F σ Γ → Mem J.K F M Z H → XR J F Z → ∀ Q : List V → Hp → Prop,
  (∀ vs F' H' es M', Same F F' → Mem J.K F' M' Z H' → REs J.K F' vs es → P es M' → Q vs H') → te σ H Q
def WT (J : Jx) (te : TT) (Γ : Ga) (M : Ms) (P : Bool → Ms → Prop) : Prop := ∀ F Z σ H, EnvOk J.K F σ Γ → Mem J.K F M Z H → XR J F Z → ∀ Q : Bool → Hp → Prop,
  (∀ b F' H' M', Same F F' → Mem J.K F' M' Z H' → P b M' → Q b H') → te σ H Q
/-- operations on values -/
def O2 (J : Jx) (r : R2) (x y : Ent) (M : Ms) (P : Ent → Ms → Prop) : Prop := ∀ F Z H v u, Mem J.K F M Z H → XR J F Z → RE J.K F v x → RE J.K F u y → ∀ Q : VK,
  (∀ v F' H' e M', Same F F' → Mem J.K F' M' Z H' → RE J.K F' v e → P e M' → Q v H') → r v u H Q
def O1 (J : Jx) (r : V → Hp → VK → Prop) (x : Ent) (M : Ms) (P : Ent → Ms → Prop) : Prop := ∀ F Z H v, Mem J.K F M Z H → XR J F Z → RE J.K F v x → ∀ Q : VK,
  (∀ v F' H' e M', Same F F' → Mem J.K F' M' Z H' → RE J.K F' v e → P e M' → Q v H') → r v H Q
def ON (J : Jx) (r : List V → Hp → VK → Prop) (xs : List Ent) (M : Ms) (P : Ent → Ms → Prop) : Prop := ∀ F Z H vs, Mem J.K F M Z H → XR J F Z → REs J.K F vs xs → ∀ Q : VK,
  (∀ v F' H' e M', Same F F' → Mem J.K F' M' Z H' → RE J.K F' v e → P e M' → Q v H') → r vs H Q
def OM (J : Jx) (r : V → List V → Hp → VK → Prop) (x : Ent) (xs : List Ent) (M : Ms) (P : Ent → Ms → Prop) : Prop := ∀ F Z H v vs, Mem J.K F M Z H → XR J F Z → RE J.K F v x → REs J.K F vs xs → ∀ Q : VK,
  (∀ v F' H' e M', Same F F' → Mem J.K F' M' Z H' → RE J.K F' v e → P e M' → Q v H') → r v vs H Q
section
variable {J : Jx} {Γ : Ga} {M : Ms} {P P' : Ent → Ms → Prop} {ta tb tc te : TE} {t u : TT}
theorem Wx.imp (h : Wx J te Γ M P) (k : ∀ e M', P e M' → P' e M') : Wx J te Γ M P' := fun F Z σ H en m x Q q => h F Z σ H en m x Q fun v F' H' e M' s m' r p => q v F' H' e M' s m' r (k e M' p)
theorem Wx.weak {M0 : Ms} (h : Wx J te Γ M0 P) (s : SameM M0 M) : Wx J te Γ M P := fun F Z σ H en m x Q q => h F Z σ H en (m.weak s) x Q q
/-! ### names, constants -/
theorem w_var {i : Nat} {e : Ent} (h : Γ[i]? = some (some e)) (p : P e M) : Wx J (tVar i) Γ M P := fun F Z σ H en m x Q q => by
  obtain ⟨o, e1, v, e2, r⟩ := paired_get en h
  subst e2
  exact ⟨v, e1, q v F H e M (Same.refl F) m r p⟩
theorem w_int {i : Int} (p : P (.d (.int i)) M) : Wx J (tC (.int i)) Γ M P := fun F Z σ H en m x Q q => q _ F H (.d (.int i)) M (Same.refl F) m (Rp.int i) p
theorem w_bl {b : Bool} (p : P (.d (.bool b)) M) : Wx J (tC (.bl b)) Γ M P := fun F Z σ H en m x Q q => q _ F H (.d (.bool b)) M (Same.refl F) m (Rp.bl b) p
theorem w_non (p : P (.d .none) M) : Wx J (tC .non) Γ M P := fun F Z σ H en m x Q q => q _ F H (.d .none) M (Same.refl F) m Rp.non p
theorem w_str {s : Str} (p : P (.d (.str s)) M) : Wx J (tC (.str s)) Γ M P := fun F Z σ H en m x Q q => q _ F H (.d (.str s)) M (Same.refl F) m (Rp.str s) p
theorem w_adr {a : Addr} (p : P (.r a) M) : Wx J (tC (.ref a)) Γ M P := fun F Z σ H en m x Q q => q _ F H (.r a) M (Same.refl F) m rfl p
theorem w_ty {n : String} (p : P (.t n) M) : Wx J (tC (.ty n)) Γ M P := fun F Z σ H en m x Q q => q _ F H (.t n) M (Same.refl F) m rfl p
/-! ### operators -/
theorem w_op {r : R2} (h : Wx J ta Γ M fun x M1 => Wx J tb Γ M1 fun y M2 => O2 J r x y M2 P) : Wx J (tOp r ta tb) Γ M P := fun F Z σ H en m x Q q =>
  h F Z σ H en m x _ fun v F1 H1 e1 M1 s1 m1 r1 h1 => h1 F1 Z σ H1 (en.mono s1) m1 (x.mono s1) _ fun u F2 H2 e2 M2 s2 m2 r2 h2 =>
    h2 F2 Z H2 v u m2 (x.mono (s1.trans s2)) (r1.mono s2) r2 Q fun w F3 H3 e3 M3 s3 m3 r3 p => q w F3 H3 e3 M3 ((s1.trans s2).trans s3) m3 r3 p
theorem w_un {r : V → Hp → VK → Prop} (h : Wx J ta Γ M fun x M1 => O1 J r x M1 P) : Wx J (tUn r ta) Γ M P := fun F Z σ H en m x Q q =>
  h F Z σ H en m x _ fun v F1 H1 e1 M1 s1 m1 r1 h1 => h1 F1 Z H1 v m1 (x.mono s1) r1 Q fun w F3 H3 e3 M3 s3 m3 r3 p => q w F3 H3 e3 M3 (s1.trans s3) m3 r3 p
theorem w_chain {r r' : R2} (h : Wx J ta Γ M fun x M1 => Wx J tb Γ M1 fun y M2 => O2 J r x y M2 fun z M3 => ∃ k, z = .d (.bool k) ∧ (k = true → Wx J tc Γ M3 fun w M4 => O2 J r' y w M4 P) ∧ (k = false → P (.d (.bool false)) M3)) :
    Wx J (tChain r r' ta tb tc) Γ M P := fun F Z σ H en m x Q q =>
  h F Z σ H en m x _ fun v F1 H1 e1 M1 s1 m1 r1 h1 => h1 F1 Z σ H1 (en.mono s1) m1 (x.mono s1) _ fun u F2 H2 e2 M2 s2 m2 r2 h2 =>
    h2 F2 Z H2 v u m2 (x.mono (s1.trans s2)) (r1.mono s2) r2 _ fun w F3 H3 e3 M3 s3 m3 r3 ⟨k, ek, kt, kf⟩ => by
      subst ek
      cases r3 with
      | bl b =>
        refine ⟨k, rfl, ?_⟩
        have s13 := (s1.trans s2).trans s3
        cases k with
        | true =>
          rw [if_pos rfl]
          exact kt rfl F3 Z σ H3 (en.mono s13) m3 (x.mono s13) _ fun u4 F4 H4 e4 M4 s4 m4 r4 h4 => h4 F4 Z H4 u u4 m4 (x.mono (s13.trans s4)) (r2.mono (s3.trans s4)) r4 Q fun w F5 H5 e5 M5 s5 m5 r5 p => q w F5 H5 e5 M5 ((s13.trans s4).trans s5) m5 r5 p
        | false =>
          rw [if_neg (by decide)]
          exact q _ F3 H3 (.d (.bool false)) M3 s13 m3 (Rp.bl false) (kf rfl)
theorem w_if (h : WT J t Γ M fun b M1 => (b = true → Wx J ta Γ M1 P) ∧ (b = false → Wx J tb Γ M1 P)) : Wx J (tIf t ta tb) Γ M P := fun F Z σ H en m x Q q =>
  h F Z σ H en m x _ fun b F1 H1 M1 s1 m1 ⟨h1, h2⟩ => by
    cases b with
    | true =>
      show ta σ H1 Q
      exact h1 rfl F1 Z σ H1 (en.mono s1) m1 (x.mono s1) Q fun w F3 H3 e3 M3 s3 m3 r3 p => q w F3 H3 e3 M3 (s1.trans s3) m3 r3 p
    | false =>
      show tb σ H1 Q
      exact h2 rfl F1 Z σ H1 (en.mono s1) m1 (x.mono s1) Q fun w F3 H3 e3 M3 s3 m3 r3 p => q w F3 H3 e3 M3 (s1.trans s3) m3 r3 p
/-! ### truth -/
/-- the truth of a value -/
def Tru (M : Ms) : Ent → Bool → Prop
  | .d .none, k => k = false
  | .d (.bool b), k => k = b
  | .d (.int i), k => k = (i != 0)
  | .d (.str s), k => s.length ≤ sizeLine ∧ k = ((s.length : Int) != 0)
  | .d (.list xs), k => k = !xs.isEmpty
  | .d (.tuple xs), k => k = !xs.isEmpty
  | .w xs, k => k = !xs.isEmpty
  | .r a, k => ∃ xs, M a = some (.lst xs) ∧ k = !xs.isEmpty
  | _, _ => False
theorem isEmpty_of_length {α β : Type} {xs : List α} {ys : List β} (h : xs.length = ys.length) : xs.isEmpty = ys.isEmpty := by
  cases xs <;> cases ys <;> simp at h ⊢
theorem tru_ok {K : PySem.W.Frag} {F Z H : Hp} {v : V} {e : Ent} {k : Bool} (m : Mem K F M Z H) (r : RE K F v e) (h : Tru M e k) : TruV K v H k := by
  cases e with
  | d x =>
    cases r with
    | non => exact h
    | bl b => exact h
    | int i => exact h
    | str s => exact h
    | lst e rs => exact .inl ⟨_, .inl (.inl (m.sub _ _ e)), by rw [isEmpty_of_length rs.length]; exact h⟩
    | tup e rs => exact .inr (.inl ⟨_, sqT_mono m.sub e, by rw [isEmpty_of_length rs.length]; exact h⟩)
    | obj _ _ => exact (h : False).elim
  | r a =>
    obtain ⟨xs, e1, e2⟩ := h
    obtain ⟨vs, h1, h2⟩ := m.list e1
    cases r
    exact .inl ⟨vs, .inl (.inl h1), by rw [isEmpty_of_length h2.length]; exact e2⟩
  | t n => exact (h : False).elim
  | w xs =>
    obtain ⟨a, vs, rfl, e1, rs⟩ := r
    exact .inl ⟨vs, m.sub.seq e1, by rw [isEmpty_of_length rs.length]; exact h⟩
end
section
variable {J : Jx} {Γ : Ga} {M : Ms} {P : Ent → Ms → Prop} {B : Bool → Ms → Prop} {ta tb tc te : TE} {t u : TT}
theorem wt_test (h : Wx J te Γ M fun x M1 => ∃ b, x = .d (.bool b) ∧ B b M1) : WT J (tTest te) Γ M B := fun F Z σ H en m x Q q =>
  h F Z σ H en m x _ fun v F1 H1 e1 M1 s1 m1 r1 ⟨b, eb, hb⟩ => by
    subst eb
    cases r1
    exact ⟨b, rfl, q b F1 H1 M1 s1 m1 hb⟩
theorem wt_val (h : Wx J te Γ M fun x M1 => ∃ b, x = .d (.bool b) ∧ B b M1) : WT J (tB te) Γ M B := fun F Z σ H en m x Q q =>
  h F Z σ H en m x _ fun v F1 H1 e1 M1 s1 m1 r1 ⟨b, eb, hb⟩ => by
    subst eb
    cases r1
    exact ⟨b, rfl, q b F1 H1 M1 s1 m1 hb⟩
theorem wt_tru (h : Wx J te Γ M fun x M1 => ∃ b, Tru M1 x b ∧ B b M1) : WT J (tTru J.K te) Γ M B := fun F Z σ H en m x Q q =>
  h F Z σ H en m x _ fun v F1 H1 e1 M1 s1 m1 r1 ⟨b, eb, hb⟩ => ⟨b, tru_ok m1 r1 eb, q b F1 H1 M1 s1 m1 hb⟩
theorem wt_and (h : WT J t Γ M fun b M1 => (b = true → WT J u Γ M1 B) ∧ (b = false → B false M1)) : WT J (tAnd t u) Γ M B := fun F Z σ H en m x Q q =>
  h F Z σ H en m x _ fun b F1 H1 M1 s1 m1 ⟨h1, h2⟩ => by
    cases b with
    | true =>
      show u σ H1 Q
      exact h1 rfl F1 Z σ H1 (en.mono s1) m1 (x.mono s1) Q fun w F3 H3 M3 s3 m3 p => q w F3 H3 M3 (s1.trans s3) m3 p
    | false =>
      show Q false H1
      exact q _ F1 H1 M1 s1 m1 (h2 rfl)
theorem wt_or (h : WT J t Γ M fun b M1 => (b = false → WT J u Γ M1 B) ∧ (b = true → B true M1)) : WT J (tOr t u) Γ M B := fun F Z σ H en m x Q q =>
  h F Z σ H en m x _ fun b F1 H1 M1 s1 m1 ⟨h1, h2⟩ => by
    cases b with
    | false =>
      show u σ H1 Q
      exact h1 rfl F1 Z σ H1 (en.mono s1) m1 (x.mono s1) Q fun w F3 H3 M3 s3 m3 p => q w F3 H3 M3 (s1.trans s3) m3 p
    | true =>
      show Q true H1
      exact q _ F1 H1 M1 s1 m1 (h2 rfl)
theorem wt_not (h : WT J t Γ M fun b M1 => B (!b) M1) : WT J (tNot t) Γ M B := fun F Z σ H en m x Q q =>
  h F Z σ H en m x _ fun b F1 H1 M1 s1 m1 h1 => q _ F1 H1 M1 s1 m1 h1
/-- and, or, not as values -/
theorem w_andT (h : Wx J ta Γ M fun x M1 => ∃ k, Tru M1 x k ∧ (k = true → Wx J tb Γ M1 P) ∧ (k = false → P x M1)) : Wx J (tAndT J.K ta tb) Γ M P := fun F Z σ H en m x Q q =>
  h F Z σ H en m x _ fun v F1 H1 e1 M1 s1 m1 r1 ⟨k, ek, h1, h2⟩ => ⟨k, tru_ok m1 r1 ek, by
    cases k with
    | true =>
      show tb σ H1 Q
      exact h1 rfl F1 Z σ H1 (en.mono s1) m1 (x.mono s1) Q fun w F3 H3 e3 M3 s3 m3 r3 p => q w F3 H3 e3 M3 (s1.trans s3) m3 r3 p
    | false =>
      show Q v H1
      exact q _ F1 H1 _ M1 s1 m1 r1 (h2 rfl)⟩
theorem w_orT (h : Wx J ta Γ M fun x M1 => ∃ k, Tru M1 x k ∧ (k = false → Wx J tb Γ M1 P) ∧ (k = true → P x M1)) : Wx J (tOrT J.K ta tb) Γ M P := fun F Z σ H en m x Q q =>
  h F Z σ H en m x _ fun v F1 H1 e1 M1 s1 m1 r1 ⟨k, ek, h1, h2⟩ => ⟨k, tru_ok m1 r1 ek, by
    cases k with
    | false =>
      show tb σ H1 Q
      exact h1 rfl F1 Z σ H1 (en.mono s1) m1 (x.mono s1) Q fun w F3 H3 e3 M3 s3 m3 r3 p => q w F3 H3 e3 M3 (s1.trans s3) m3 r3 p
    | true =>
      show Q v H1
      exact q _ F1 H1 _ M1 s1 m1 r1 (h2 rfl)⟩
theorem w_notT (h : Wx J ta Γ M fun x M1 => ∃ k, Tru M1 x k ∧ P (.d (.bool (!k))) M1) : Wx J (tNotT J.K ta) Γ M P := fun F Z σ H en m x Q q =>
  h F Z σ H en m x _ fun v F1 H1 e1 M1 s1 m1 r1 ⟨k, ek, h1⟩ => ⟨k, tru_ok m1 r1 ek, q _ F1 H1 (.d (.bool (!k))) M1 s1 m1 (Rp.bl _) h1⟩
/-! ### arguments -/
variable {A : List Ent → Ms → Prop} {tr : TA}
theorem wa_nil (p : A [] M) : WA J tNil Γ M A := fun F Z σ H en m x Q q => q [] F H [] M (Same.refl F) m .nil p
theorem wa_cons (h : Wx J ta Γ M fun x M1 => WA J tr Γ M1 fun xs M2 => A (x :: xs) M2) : WA J (tCons ta tr) Γ M A := fun F Z σ H en m x Q q =>
  h F Z σ H en m x _ fun v F1 H1 e1 M1 s1 m1 r1 h1 => h1 F1 Z σ H1 (en.mono s1) m1 (x.mono s1) _ fun vs F2 H2 es M2 s2 m2 r2 p => q (v :: vs) F2 H2 (e1 :: es) M2 (s1.trans s2) m2 (.cons (r1.mono s2) r2) p
theorem rpAll_of {K : PySem.W.Frag} {F : Hp} : ∀ {vs : List V} {ds : List PyData}, REs K F vs (ds.map Ent.d) → RpAll K F vs ds
  | _, [], .nil => .nil
  | _, _ :: _, .cons r t => .cons r (rpAll_of t)
theorem res_of {K : PySem.W.Frag} {F : Hp} : ∀ {vs : List V} {ds : List PyData}, RpAll K F vs ds → REs K F vs (ds.map Ent.d)
  | _, _, .nil => .nil
  | _, _, .cons r t => .cons r (res_of t)
/-- a tuple, a list that stands | a list that may change -/
theorem w_tup {t : TA} (h : WA J t Γ M fun es M1 => ∃ ds, es = ds.map Ent.d ∧ ds.length ≤ sizeLine ∧ P (.d (.tuple ds)) M1) : Wx J (tTup t) Γ M P := fun F Z σ H en m x Q q =>
  h F Z σ H en m x _ fun vs F1 H1 es M1 s1 m1 r1 ⟨ds, ed, hl, p⟩ => by
    subst ed
    have ra := rpAll_of r1
    refine ⟨by rw [ra.length]; exact hl, fun a n => ?_⟩
    obtain ⟨s2, m2⟩ := m1.newF (o := .tup vs) n
    exact q _ _ _ (.d (.tuple ds)) M1 (s1.trans s2) m2 (.tup (.inl (.inl upd_same)) (ra.mono s2)) p
theorem w_lst {t : TA} (h : WA J t Γ M fun es M1 => ∃ ds, es = ds.map Ent.d ∧ ds.length ≤ sizeLine ∧ P (.d (.list ds)) M1) : Wx J (tLst t) Γ M P := fun F Z σ H en m x Q q =>
  h F Z σ H en m x _ fun vs F1 H1 es M1 s1 m1 r1 ⟨ds, ed, hl, p⟩ => by
    subst ed
    have ra := rpAll_of r1
    refine ⟨by rw [ra.length]; exact hl, fun a n => ?_⟩
    obtain ⟨s2, m2⟩ := m1.newF (o := .lst vs) n
    exact q _ _ _ (.d (.list ds)) M1 (s1.trans s2) m2 (.lst upd_same (ra.mono s2)) p
theorem w_lstM {t : TA} (h : WA J t Γ M fun es M1 => es.length ≤ sizeLine ∧ ∀ a, M1 a = none → P (.r a) (um M1 a (.lst es))) : Wx J (tLst t) Γ M P := fun F Z σ H en m x Q q =>
  h F Z σ H en m x _ fun vs F1 H1 es M1 s1 m1 r1 ⟨hl, p⟩ => by
    refine ⟨by rw [r1.length]; exact hl, fun a n => ?_⟩
    obtain ⟨nM, m2⟩ := m1.newM (o := .lst vs) (m := .lst es) n r1
    exact q _ _ _ (.r a) _ s1 m2 rfl (p a nM)
end
/-! ## defs -/
/-- what a def does, over data: its arguments, what may change, what is wanted of its value, of an exception -/
abbrev ASp := List Ent → Ms → (Ent → Ms → Prop) → Xa → Prop
def spA (K : PySem.W.Frag) (c : ASp) : Sp := fun vs H Q E => ∃ (F Z : Hp) (M : Ms) (es : List Ent) (Qa : Ent → Ms → Prop) (X : Xa), REs K F vs es ∧ Mem K F M Z H ∧ c es M Qa X ∧
  (∀ v F' H' e M', Same F F' → Mem K F' M' Z H' → RE K F' v e → Qa e M' → Q v H') ∧ XR ⟨K, E, X⟩ F Z
abbrev X0 : Xa := fun _ _ _ => False
section
variable {J : Jx} {Γ : Ga} {M : Ms} {P : Ent → Ms → Prop} {t : TA}
theorem paired_append {α β : Type} {R : α → β → Prop} : ∀ {xs ys : List α} {us ws : List β}, Paired R xs us → Paired R ys ws → Paired R (xs ++ ys) (us ++ ws)
  | _, _, _, _, .nil, s => s
  | _, _, _, _, .cons r t, s => .cons r (paired_append t s)
/-- a call of a def that lets nothing out; dvs: its defaults -/
theorem w_call0 {c : ASp} {dvs : List V} {des : List Ent} (hd : ∀ F, REs J.K F dvs des) (h : WA J t Γ M fun es M1 => c (es ++ des) M1 P X0) : Wx J (tCall (spA J.K c) dvs E0 t) Γ M P := fun F Z σ H en m x Q q =>
  h F Z σ H en m x _ fun vs F1 H1 es M1 s1 m1 r1 h1 =>
    ⟨F1, Z, M1, es ++ des, P, X0, paired_append r1 (hd F1), m1, h1, fun v F' H' e M' s m' r p => q v F' H' e M' (s1.trans s) m' r p, fun _ _ _ _ _ _ _ _ z _ => z.elim⟩
theorem w_callE {c : ASp} {dvs : List V} {des : List Ent} (hd : ∀ F, REs J.K F dvs des) (h : WA J t Γ M fun es M1 => c (es ++ des) M1 P J.X) : Wx J (tCall (spA J.K c) dvs J.E t) Γ M P := fun F Z σ H en m x Q q =>
  h F Z σ H en m x _ fun vs F1 H1 es M1 s1 m1 r1 h1 =>
    ⟨F1, Z, M1, es ++ des, P, J.X, paired_append r1 (hd F1), m1, h1, fun v F' H' e M' s m' r p => q v F' H' e M' (s1.trans s) m' r p, x.mono s1⟩
end
/-! ## statements -/
structure Nd where
  nx : Ga → Ms → Prop
  rt : Ent → Ms → Prop
  bk : Ga → Ms → Prop := fun _ _ => False
  ct : Ga → Ms → Prop := fun _ _ => False
structure EndOk (K : PySem.W.Frag) (F Z : Hp) (D : Nd) (C : Ends) : Prop where
  nx : ∀ F' M' H' σ Γ, Same F F' → Mem K F' M' Z H' → EnvOk K F' σ Γ → D.nx Γ M' → C.nx σ H'
  rt : ∀ F' M' H' v e, Same F F' → Mem K F' M' Z H' → RE K F' v e → D.rt e M' → C.rt v H'
  bk : ∀ F' M' H' σ Γ, Same F F' → Mem K F' M' Z H' → EnvOk K F' σ Γ → D.bk Γ M' → C.bk σ H'
  ct : ∀ F' M' H' σ Γ, Same F F' → Mem K F' M' Z H' → EnvOk K F' σ Γ → D.ct Γ M' → C.ct σ H'
theorem EndOk.mono {K : PySem.W.Frag} {F F' Z : Hp} {D : Nd} {C : Ends} (h : EndOk K F Z D C) (s : Same F F') : EndOk K F' Z D C :=
  ⟨fun F2 M2 H2 σ Γ s2 => h.nx F2 M2 H2 σ Γ (s.trans s2), fun F2 M2 H2 v e s2 => h.rt F2 M2 H2 v e (s.trans s2), fun F2 M2 H2 σ Γ s2 => h.bk F2 M2 H2 σ Γ (s.trans s2), fun F2 M2 H2 σ Γ s2 => h.ct F2 M2 H2 σ Γ (s.trans s2)⟩
def Sx (J : Jx) (ts : TS) (D : Nd) (Γ : Ga) (M : Ms) : Prop := ∀ F Z σ H C, EnvOk J.K F σ Γ → Mem J.K F M Z H → XR J F Z → EndOk J.K F Z D C → ts C σ H
/-- targets -/
def GT (J : Jx) (g : TG) (e : Ent) (Γ : Ga) (M : Ms) (P : Ga → Ms → Prop) : Prop := ∀ F Z σ H v, EnvOk J.K F σ Γ → Mem J.K F M Z H → XR J F Z → RE J.K F v e → ∀ Q : L2.St → Hp → Prop,
  (∀ F' H' σ' Γ' M', Same F F' → Mem J.K F' M' Z H' → EnvOk J.K F' σ' Γ' → P Γ' M' → Q σ' H') → g v σ H Q
def GTs (J : Jx) (g : TGs) (es : List Ent) (Γ : Ga) (M : Ms) (P : Ga → Ms → Prop) : Prop := ∀ F Z σ H vs, EnvOk J.K F σ Γ → Mem J.K F M Z H → XR J F Z → REs J.K F vs es → ∀ Q : L2.St → Hp → Prop,
  (∀ F' H' σ' Γ' M', Same F F' → Mem J.K F' M' Z H' → EnvOk J.K F' σ' Γ' → P Γ' M' → Q σ' H') → g vs σ H Q
section
variable {J : Jx} {Γ : Ga} {M : Ms} {D : Nd} {te ta tb : TE} {t u : TS} {tt : TT} {g : TG} {gs : TGs} {P : Ga → Ms → Prop} {e : Ent}
theorem Sx.weak {M0 : Ms} (h : Sx J t D Γ M0) (s : SameM M0 M) : Sx J t D Γ M := fun F Z σ H C en m x d => h F Z σ H C en (m.weak s) x d
theorem s_seq (h : Sx J t { D with nx := fun Γ' M' => Sx J u D Γ' M' } Γ M) : Sx J (tSeq t u) D Γ M := fun F Z σ H C en m x d =>
  h F Z σ H _ en m x ⟨fun F' M' H' σ' Γ' s m' e' k => k F' Z σ' H' C e' m' (x.mono s) (d.mono s), d.rt, d.bk, d.ct⟩
theorem s_next (h : D.nx Γ M) : Sx J tNext D Γ M := fun F Z σ H C en m x d => d.nx F M H σ Γ (Same.refl F) m en h
theorem s_break (h : D.bk Γ M) : Sx J tBreak D Γ M := fun F Z σ H C en m x d => d.bk F M H σ Γ (Same.refl F) m en h
theorem s_cont (h : D.ct Γ M) : Sx J tCont D Γ M := fun F Z σ H C en m x d => d.ct F M H σ Γ (Same.refl F) m en h
theorem s_drop (h : Wx J te Γ M fun _ M1 => D.nx Γ M1) : Sx J (tDrop te) D Γ M := fun F Z σ H C en m x d =>
  h F Z σ H en m x _ fun v F' H' e M' s m' r p => d.nx F' M' H' σ Γ s m' (en.mono s) p
theorem s_ret (h : Wx J te Γ M D.rt) : Sx J (tRet te) D Γ M := fun F Z σ H C en m x d =>
  h F Z σ H en m x _ fun v F' H' e M' s m' r p => d.rt F' M' H' v e s m' r p
theorem s_retN (h : D.rt (.d .none) M) : Sx J tRetN D Γ M := fun F Z σ H C en m x d => d.rt F M H _ (.d .none) (Same.refl F) m Rp.non h
theorem s_if (h : WT J tt Γ M fun b M1 => (b = true → Sx J t D Γ M1) ∧ (b = false → Sx J u D Γ M1)) : Sx J (tIfS tt t u) D Γ M := fun F Z σ H C en m x d =>
  h F Z σ H en m x _ fun b F1 H1 M1 s1 m1 ⟨h1, h2⟩ => by
    cases b with
    | true =>
      show t C σ H1
      exact h1 rfl F1 Z σ H1 C (en.mono s1) m1 (x.mono s1) (d.mono s1)
    | false =>
      show u C σ H1
      exact h2 rfl F1 Z σ H1 C (en.mono s1) m1 (x.mono s1) (d.mono s1)
theorem s_asg (h : Wx J te Γ M fun e M1 => GT J g e Γ M1 D.nx) : Sx J (tAsg te g) D Γ M := fun F Z σ H C en m x d =>
  h F Z σ H en m x _ fun v F1 H1 e M1 s1 m1 r1 h1 => h1 F1 Z σ H1 v (en.mono s1) m1 (x.mono s1) r1 _ fun F' H' σ' Γ' M' s m' e' p => d.nx F' M' H' σ' Γ' (s1.trans s) m' e' p
theorem g_name {i : Nat} (h : P (Γ.set i (some e)) M) : GT J (gName i) e Γ M P := fun F Z σ H v en m x r Q q => q F H _ _ M (Same.refl F) m (en.set i r) h
theorem s_set {i : Nat} (h : Wx J te Γ M fun e M1 => D.nx (Γ.set i (some e)) M1) : Sx J (tAsg te (gName i)) D Γ M := s_asg (h.imp fun _ _ p => g_name p)
theorem gs_nil (h : P Γ M) : GTs J gNil [] Γ M P := fun F Z σ H vs en m x r Q q => by
  cases r
  exact ⟨rfl, q F H σ Γ M (Same.refl F) m en h⟩
theorem gs_cons {es : List Ent} (h : GT J g e Γ M fun Γ1 M1 => GTs J gs es Γ1 M1 P) : GTs J (gCons g gs) (e :: es) Γ M P := fun F Z σ H vs en m x r Q q => by
  cases r with
  | cons r1 r2 =>
    exact ⟨_, _, rfl, h F Z σ H _ en m x r1 _ fun F1 H1 σ1 Γ1 M1 s1 m1 e1 k => k F1 Z σ1 H1 _ e1 m1 (x.mono s1) (Paired.mapP r2 fun _ _ q => q.mono s1) Q fun F' H' σ' Γ' M' s m' e' p => q F' H' σ' Γ' M' (s1.trans s) m' e' p⟩
theorem g_tup {n : Nat} {ds : List PyData} (hn : ds.length = n) (h : GTs J gs (ds.map Ent.d) Γ M P) : GT J (gTup J.K n gs) (.d (.tuple ds)) Γ M P := fun F Z σ H v en m x r Q q => by
  cases r with
  | tup e rs => exact ⟨_, _, rfl, sqT_mono m.sub e, by rw [rs.length]; exact hn, h F Z σ H _ en m x (res_of rs) Q q⟩
theorem s_aug {i : Nat} {ti : TIp} {e0 : Ent} (h0 : Γ[i]? = some (some e0)) (h : Wx J te Γ M fun y M1 => O2 J (fun x y H Q => ti x y H Q) e0 y M1 fun z M2 => D.nx (Γ.set i (some z)) M2) : Sx J (tAug i te ti) D Γ M := fun F Z σ H C en m x d => by
  obtain ⟨o, e1, v, e2, r⟩ := paired_get en h0
  subst e2
  exact ⟨v, e1, h F Z σ H en m x _ fun u F1 H1 e M1 s1 m1 r1 h1 => h1 F1 Z H1 v u m1 (x.mono s1) (r.mono s1) r1 _ fun z F2 H2 e3 M2 s2 m2 r2 p => d.nx F2 M2 H2 _ _ (s1.trans s2) m2 ((en.mono (s1.trans s2)).set i r2) p⟩
/-- a list stops changing -/
def fzE (a : Addr) (ds : List PyData) : Option Ent → Option Ent
  | some (.r b) => if b = a then some (.d (.list ds)) else some (.r b)
  | o => o
theorem fz_env {K : PySem.W.Frag} {F : Hp} {a : Addr} {ds : List PyData} (rp : Rp K F (.ref a) (.list ds)) : ∀ {σ : L2.St} {Γ : Ga}, EnvOk K F σ Γ → EnvOk K F σ (Γ.map (fzE a ds))
  | _, _, .nil => .nil
  | _, none :: _, .cons q t => .cons trivial (fz_env rp t)
  | _, some (.d _) :: _, .cons q t => .cons q (fz_env rp t)
  | _, some (.w _) :: _, .cons q t => .cons q (fz_env rp t)
  | _, some (.t _) :: _, .cons q t => .cons q (fz_env rp t)
  | _, some (.r b) :: _, .cons q t => by
    refine Paired.cons ?_ (fz_env rp t)
    show RO K F _ (if b = a then some (.d (.list ds)) else some (.r b))
    split
    · rename_i e
      obtain ⟨v, e1, e2⟩ := q
      exact ⟨v, e1, by rw [show v = .ref b from e2, e]; exact rp⟩
    · exact q
theorem s_freeze {a : Addr} {ds : List PyData} (h0 : M a = some (.lst (ds.map Ent.d))) (h : Sx J t D (Γ.map (fzE a ds)) (dl M a)) : Sx J t D Γ M := fun F Z σ H C en m x d => by
  obtain ⟨vs, e1, r1⟩ := m.list h0
  obtain ⟨s2, m2⟩ := m.freeze h0 e1
  exact h _ Z σ H C (fz_env (.lst upd_same ((rpAll_of r1).mono s2)) (en.mono s2)) m2 (x.mono s2) (d.mono s2)
end
/-! ## the rule of a def -/
def startG (N : List Str) (es : List Ent) : Ga := es.map some ++ List.replicate (N.length - es.length) none
theorem startG_ok {K : PySem.W.Frag} {F : Hp} {N : List Str} {vs : List V} {es : List Ent} (r : REs K F vs es) : EnvOk K F (L2.start N vs) (startG N es) := by
  have e := r.length
  unfold L2.start startG
  rw [e]
  refine paired_append ?_ ?_
  · clear e
    induction r with
    | nil => exact .nil
    | cons q t ih => exact .cons ⟨_, rfl, q⟩ ih
  · generalize N.length - es.length = n
    induction n with
    | zero => exact .nil
    | succ n ih => exact .cons trivial ih
section
variable {P : Program} {w : World} {K : PySem.W.Frag} {mg : Str → Option Value} {base : Heap} {x qual : Str} {params : Arguments} {body : List Stmt} {scope : Scope} {dvs : List V} {kws : List (Str × V)} {f : Addr} {fd : FuncData}
/-- a def that lets nothing out -/
theorem fn_ok {N ps : List Str} {k : Nat} {c : ASp} (F : FunD K x qual params body scope dvs kws f fd) (S : FnScope N ps scope) (len : ∀ es M Q X, c es M Q X → es.length = ps.length)
    (h : ∀ (cdv : Value) (A : Around) (outer : List Env) (s : Shared) (H : Hp) (E : XK), Room k (A.deeper (PyProof.Rows.envOfC qual scope s.heap.objs.size f cdv)) →
      ∃ t, PSs (cxOf CX0 P w K mg base N qual scope f cdv A outer s H E).nox body t ∧ ∀ es M Q X, c es M Q X → Sx ⟨K, E, X⟩ t { nx := fun _ M' => Q (.d .none) M', rt := Q } (startG N es) M) : FnOk P w K mg base CX0 (k + 1) f fd ps (spA K c) := by
  refine FunD.ok F S (fun vs H Q E ⟨F, Z, M, es, Qa, X, r, _, hc, _⟩ => r.length.trans (len es M Qa X hc)) fun cdv A outer s H vs Q E hr hsp => ?_
  obtain ⟨F, Z, M, es, Qa, X, r, m, hc, hq, hx⟩ := hsp
  obtain ⟨t, ht, hs⟩ := h cdv A outer s H E hr
  refine ⟨t, ht.nox, hs es M Qa X hc F Z _ H _ (startG_ok r) m hx ⟨?_, ?_, fun _ _ _ _ _ _ _ _ z => z.elim, fun _ _ _ _ _ _ _ _ z => z.elim⟩⟩
  · intro F' M' H' σ Γ s' m' _ q
    exact hq _ F' H' (.d .none) M' s' m' Rp.non q
  · intro F' M' H' v e s' m' r' q
    exact hq v F' H' e M' s' m' r' q
end
end Z
set_option Elab.async false
set_option linter.all false
set_option maxRecDepth 100000
set_option maxHeartbeats 4000000
namespace Z
open PySem PySem.Spec L2
/-! ## operations over data -/
def rOr (r r' : R2) : R2 := fun x y H Q => r x y H Q ∨ r' x y H Q
theorem op_or2 {X : Cx} {f : Value → Value → Sem Value} {r r' : R2} (h : OpR X f r) (h' : OpR X f r') : OpR X f (rOr r r') := fun pins s σ H x y v u Q I rx ry q => q.elim (h pins s σ H x y v u Q I rx ry) (h' pins s σ H x y v u Q I rx ry)
section
variable {J : Jx} {Γ : Ga} {M : Ms} {P : Ent → Ms → Prop} {r r' : R2} {x y : Ent}
theorem o_l (h : O2 J r x y M P) : O2 J (rOr r r') x y M P := fun F Z H v u m xr r1 r2 Q q => .inl (h F Z H v u m xr r1 r2 Q q)
theorem o_r (h : O2 J r' x y M P) : O2 J (rOr r r') x y M P := fun F Z H v u m xr r1 r2 Q q => .inr (h F Z H v u m xr r1 r2 Q q)
theorem o_I0 {g : Int → Int → V} {d : PyData} {i j : Int} (hg : ∀ F, Rp J.K F (g i j) d) (p : P (.d d) M) : O2 J (rI0 g) (.d (.int i)) (.d (.int j)) M P := fun F Z H v u m xr r1 r2 Q q => by
  cases r1
  cases r2
  exact ⟨i, j, rfl, rfl, q _ F H (.d d) M (Same.refl F) m (hg F) p⟩
theorem o_I {C : Int → Int → Prop} {g : Int → Int → V} {d : PyData} {i j : Int} (hg : ∀ F, Rp J.K F (g i j) d) (hc : C i j) (p : P (.d d) M) : O2 J (rI C g) (.d (.int i)) (.d (.int j)) M P := fun F Z H v u m xr r1 r2 Q q => by
  cases r1
  cases r2
  exact ⟨i, j, rfl, rfl, hc, q _ F H (.d d) M (Same.refl F) m (hg F) p⟩
/-! + - * // % ** -/
abbrev rAddI : R2 := rI0 fun i j => .int (i + j)
abbrev rAddS : R2 := fun x y H Q => ∃ i j, x = .str i ∧ y = .str j ∧ i.length + j.length ≤ sizeLine ∧ Q (.str (i ++ j)) H
abbrev rAddU (K : PySem.W.Frag) : R2 := rOr rAddI (rOr rAddS (rOr rCat (rCatT K)))
theorem op_addU {X : Cx} : OpR X (binaryOp .Add) (rAddU X.K) := op_or2 op_add (op_or2 op_add_str (op_or2 op_cat op_catT))
theorem o_add {i j : Int} (p : P (.d (.int (i + j))) M) : O2 J (rAddU J.K) (.d (.int i)) (.d (.int j)) M P := o_l (o_I0 (fun _ => Rp.int _) p)
theorem o_addS {i j : Str} (hl : i.length + j.length ≤ sizeLine) (p : P (.d (.str (i ++ j))) M) : O2 J (rAddU J.K) (.d (.str i)) (.d (.str j)) M P := o_r (o_l fun F Z H v u m xr r1 r2 Q q => by
  cases r1
  cases r2
  exact ⟨i, j, rfl, rfl, hl, q _ F H (.d (.str (i ++ j))) M (Same.refl F) m (Rp.str _) p⟩)
theorem o_cat {xs ys : List PyData} (hl : xs.length + ys.length ≤ sizeLine) (p : P (.d (.list (xs ++ ys))) M) : O2 J (rAddU J.K) (.d (.list xs)) (.d (.list ys)) M P := o_r (o_r (o_l fun F Z H v u m xr r1 r2 Q q => by
  cases r1 with
  | lst e1 s1 =>
    cases r2 with
    | lst e2 s2 =>
      refine ⟨_, _, _, _, rfl, rfl, m.sub _ _ e1, m.sub _ _ e2, by rw [s1.length, s2.length]; exact hl, fun a n => ?_⟩
      obtain ⟨s3, m3⟩ := m.newF (o := .lst _) n
      exact q _ _ _ (.d (.list (xs ++ ys))) M s3 m3 (Rp.lst upd_same ((s1.append s2).mono s3)) p))
theorem o_catT {xs ys : List PyData} (hn : xs ≠ []) (hl : xs.length + ys.length ≤ sizeLine) (p : P (.d (.tuple (xs ++ ys))) M) : O2 J (rAddU J.K) (.d (.tuple xs)) (.d (.tuple ys)) M P := o_r (o_r (o_r fun F Z H v u m xr r1 r2 Q q => by
  cases r1 with
  | tup e1 s1 =>
    cases r2 with
    | tup e2 s2 =>
      refine ⟨_, _, _, _, rfl, rfl, sqT_mono m.sub e1, sqT_mono m.sub e2, fun z => hn ?_, by rw [s1.length, s2.length]; exact hl, fun z => ?_, fun _ a n => ?_⟩
      · have l := s1.length
        rw [z] at l
        exact List.eq_nil_of_length_eq_zero l.symm
      · have l := s2.length
        rw [z] at l
        have ey : ys = [] := List.eq_nil_of_length_eq_zero l.symm
        subst ey
        exact q _ F H (.d (.tuple (xs ++ []))) M (Same.refl F) m (by rw [List.append_nil]; exact Rp.tup e1 s1) p
      · obtain ⟨s3, m3⟩ := m.newF (o := .tup _) n
        exact q _ _ _ (.d (.tuple (xs ++ ys))) M s3 m3 (Rp.tup (.inl (.inl upd_same)) ((s1.append s2).mono s3)) p))
abbrev rSubI : R2 := rI0 fun i j => .int (i - j)
theorem o_sub {i j : Int} (p : P (.d (.int (i - j))) M) : O2 J rSubI (.d (.int i)) (.d (.int j)) M P := o_I0 (fun _ => Rp.int _) p
theorem o_mul {i j : Int} (hc : CMul i j) (p : P (.d (.int (i * j))) M) : O2 J (rI CMul fun i j => .int (i * j)) (.d (.int i)) (.d (.int j)) M P := o_I (fun _ => Rp.int _) hc p
theorem o_fdiv {i j : Int} (hc : CDivN i j) (p : P (.d (.int (i.fdiv j))) M) : O2 J (rI CDivN fun i j => .int (i.fdiv j)) (.d (.int i)) (.d (.int j)) M P := o_I (fun _ => Rp.int _) hc p
theorem o_mod {i j : Int} (hc : j ≠ 0) (p : P (.d (.int (i.fmod j))) M) : O2 J (rI (fun _ j => j ≠ 0) fun i j => .int (i.fmod j)) (.d (.int i)) (.d (.int j)) M P := o_I (fun _ => Rp.int _) hc p
theorem o_pow {i j : Int} (hc : CPow i j) (p : P (.d (.int (i ^ j.toNat))) M) : O2 J (rI CPow fun i j => .int (i ^ j.toNat)) (.d (.int i)) (.d (.int j)) M P := o_I (fun _ => Rp.int _) hc p
theorem o_neg {i : Int} (p : P (.d (.int (-i))) M) : O1 J (rU fun i => .int (-i)) (.d (.int i)) M P := fun F Z H v m xr r1 Q q => by
  cases r1
  exact ⟨i, rfl, q _ F H (.d (.int (-i))) M (Same.refl F) m (Rp.int _) p⟩
/-! < <= > >= -/
abbrev rLtU : R2 := rOr (rI0 fun i j => .bl (decide (i < j))) (fun x y H Q => ∃ i j, x = .str i ∧ y = .str j ∧ Q (.bl (decide (i.cps.toList < j.cps.toList))) H)
abbrev rLeU : R2 := rOr (rI0 fun i j => .bl (decide (i ≤ j))) (fun x y H Q => ∃ i j, x = .str i ∧ y = .str j ∧ Q (.bl (!decide (j.cps.toList < i.cps.toList))) H)
abbrev rGtU : R2 := rOr (rI0 fun i j => .bl (decide (j < i))) (fun x y H Q => ∃ i j, x = .str i ∧ y = .str j ∧ Q (.bl (decide (j.cps.toList < i.cps.toList))) H)
abbrev rGeU : R2 := rOr (rI0 fun i j => .bl (decide (j ≤ i))) (fun x y H Q => ∃ i j, x = .str i ∧ y = .str j ∧ Q (.bl (!decide (i.cps.toList < j.cps.toList))) H)
theorem op_ltU {X : Cx} : OpR X (compareOp .Lt) rLtU := op_or2 op_lt op_lt_str
theorem op_leU {X : Cx} : OpR X (compareOp .LtE) rLeU := op_or2 op_le op_le_str
theorem op_gtU {X : Cx} : OpR X (compareOp .Gt) rGtU := op_or2 op_gt op_gt_str
theorem op_geU {X : Cx} : OpR X (compareOp .GtE) rGeU := op_or2 op_ge op_ge_str
theorem o_lt {i j : Int} (p : P (.d (.bool (decide (i < j)))) M) : O2 J rLtU (.d (.int i)) (.d (.int j)) M P := o_l (o_I0 (fun _ => Rp.bl _) p)
theorem o_le {i j : Int} (p : P (.d (.bool (decide (i ≤ j)))) M) : O2 J rLeU (.d (.int i)) (.d (.int j)) M P := o_l (o_I0 (fun _ => Rp.bl _) p)
theorem o_gt {i j : Int} (p : P (.d (.bool (decide (j < i)))) M) : O2 J rGtU (.d (.int i)) (.d (.int j)) M P := o_l (o_I0 (fun _ => Rp.bl _) p)
theorem o_ge {i j : Int} (p : P (.d (.bool (decide (j ≤ i)))) M) : O2 J rGeU (.d (.int i)) (.d (.int j)) M P := o_l (o_I0 (fun _ => Rp.bl _) p)
theorem o_SS {g : Str → Str → V} {d : PyData} {i j : Str} (hg : ∀ F, Rp J.K F (g i j) d) (p : P (.d d) M) : O2 J (fun x y H Q => ∃ i j, x = .str i ∧ y = .str j ∧ Q (g i j) H) (.d (.str i)) (.d (.str j)) M P := fun F Z H v u m xr r1 r2 Q q => by
  cases r1
  cases r2
  exact ⟨i, j, rfl, rfl, q _ F H (.d d) M (Same.refl F) m (hg F) p⟩
theorem o_ltS {i j : Str} (p : P (.d (.bool (decide (i.cps.toList < j.cps.toList)))) M) : O2 J rLtU (.d (.str i)) (.d (.str j)) M P := o_r (o_SS (g := fun i j => .bl (decide (i.cps.toList < j.cps.toList))) (fun _ => Rp.bl _) p)
theorem o_leS {i j : Str} (p : P (.d (.bool (!decide (j.cps.toList < i.cps.toList)))) M) : O2 J rLeU (.d (.str i)) (.d (.str j)) M P := o_r (o_SS (g := fun i j => .bl (!decide (j.cps.toList < i.cps.toList))) (fun _ => Rp.bl _) p)
theorem o_gtS {i j : Str} (p : P (.d (.bool (decide (j.cps.toList < i.cps.toList)))) M) : O2 J rGtU (.d (.str i)) (.d (.str j)) M P := o_r (o_SS (g := fun i j => .bl (decide (j.cps.toList < i.cps.toList))) (fun _ => Rp.bl _) p)
/-! == != -/
theorem o_eqD {a b : PyData} (ha : noObj a = true) (hb : noObj b = true) (sa : SeqAt.shaped a = true) (sb : SeqAt.shaped b = true) (p : P (.d (.bool (PyData.eqv a b))) M) : O2 J (rEqD J.K) (.d a) (.d b) M P := fun F Z H v u m xr r1 r2 Q q =>
  ⟨a, b, dp_mono m.sub (Rp.dp r1 ha), dp_mono m.sub (Rp.dp r2 hb), sa, sb, q _ F H (.d (.bool _)) M (Same.refl F) m (Rp.bl _) p⟩
theorem o_neD {a b : PyData} (ha : noObj a = true) (hb : noObj b = true) (sa : SeqAt.shaped a = true) (sb : SeqAt.shaped b = true) (p : P (.d (.bool (!PyData.eqv a b))) M) : O2 J (rNeD J.K) (.d a) (.d b) M P := fun F Z H v u m xr r1 r2 Q q =>
  ⟨a, b, dp_mono m.sub (Rp.dp r1 ha), dp_mono m.sub (Rp.dp r2 hb), sa, sb, q _ F H (.d (.bool _)) M (Same.refl F) m (Rp.bl _) p⟩
abbrev rEqU (K : PySem.W.Frag) : R2 := rOr rEq (rEqD K)
abbrev rNeU (K : PySem.W.Frag) : R2 := rOr rNe (rNeD K)
theorem op_eqU {X : Cx} (hu : X.A.units + 64 < cLine) : OpR X (compareOp .Eq) (rEqU X.K) := op_or2 op_eq (op_eqD hu)
theorem op_neU {X : Cx} (hu : X.A.units + 64 < cLine) : OpR X (compareOp .NotEq) (rNeU X.K) := op_or2 op_ne (op_neD hu)
/-- scalars by their values -/
def sv : PyData → Option V
  | .none => some .non
  | .bool b => some (.bl b)
  | .int i => some (.int i)
  | .str s => some (.str s)
  | _ => none
theorem rp_sv {K : PySem.W.Frag} {F : Hp} {v z : V} {d : PyData} (r : Rp K F v d) (h : sv d = some z) : v = z := by
  cases r <;> simp [sv] at h <;> exact h
theorem o_eqS {a b : PyData} {z w : V} (ha : sv a = some z) (hb : sv b = some w) (hs : scal z w = true) (p : P (.d (.bool (decide (z = w)))) M) : O2 J (rEqU J.K) (.d a) (.d b) M P := o_l fun F Z H v u m xr r1 r2 Q q => by
  rw [rp_sv r1 ha, rp_sv r2 hb]
  exact ⟨hs, q _ F H (.d (.bool _)) M (Same.refl F) m (Rp.bl _) p⟩
theorem o_neS {a b : PyData} {z w : V} (ha : sv a = some z) (hb : sv b = some w) (hs : scal z w = true) (p : P (.d (.bool (!decide (z = w)))) M) : O2 J (rNeU J.K) (.d a) (.d b) M P := o_l fun F Z H v u m xr r1 r2 Q q => by
  rw [rp_sv r1 ha, rp_sv r2 hb]
  exact ⟨hs, q _ F H (.d (.bool _)) M (Same.refl F) m (Rp.bl _) p⟩
theorem o_eq {i j : Int} (p : P (.d (.bool (decide (i = j)))) M) : O2 J (rEqU J.K) (.d (.int i)) (.d (.int j)) M P := o_eqS rfl rfl rfl (by simpa using p)
theorem o_ne {i j : Int} (p : P (.d (.bool (!decide (i = j)))) M) : O2 J (rNeU J.K) (.d (.int i)) (.d (.int j)) M P := o_neS rfl rfl rfl (by simpa using p)
theorem o_eqT {i j : Str} (p : P (.d (.bool (decide (i = j)))) M) : O2 J (rEqU J.K) (.d (.str i)) (.d (.str j)) M P := o_eqS rfl rfl rfl (by simpa using p)
theorem o_neT {i j : Str} (p : P (.d (.bool (!decide (i = j)))) M) : O2 J (rNeU J.K) (.d (.str i)) (.d (.str j)) M P := o_neS rfl rfl rfl (by simpa using p)
theorem o_eqB {i j : Bool} (p : P (.d (.bool (decide (i = j)))) M) : O2 J (rEqU J.K) (.d (.bool i)) (.d (.bool j)) M P := o_eqS rfl rfl rfl (by simpa using p)
theorem o_eqL {a b : PyData} (ha : noObj a = true) (hb : noObj b = true) (sa : SeqAt.shaped a = true) (sb : SeqAt.shaped b = true) (p : P (.d (.bool (PyData.eqv a b))) M) : O2 J (rEqU J.K) (.d a) (.d b) M P := o_r (o_eqD ha hb sa sb p)
theorem o_neL {a b : PyData} (ha : noObj a = true) (hb : noObj b = true) (sa : SeqAt.shaped a = true) (sb : SeqAt.shaped b = true) (p : P (.d (.bool (!PyData.eqv a b))) M) : O2 J (rNeU J.K) (.d a) (.d b) M P := o_r (o_neD ha hb sa sb p)
/-! is None -/
def isN : Ent → Bool
  | .d .none => true
  | _ => false
theorem re_isN {K : PySem.W.Frag} {F : Hp} {v : V} {e : Ent} (r : RE K F v e) : decide (v = .non) = isN e := by
  cases e with
  | d x => cases r <;> rfl
  | r a => cases r; rfl
  | t n => cases r; rfl
  | w xs =>
    obtain ⟨a, vs, rfl, _⟩ := r
    rfl
theorem o_isN (p : P (.d (.bool (isN x))) M) : O2 J rIsN x (.d .none) M P := fun F Z H v u m xr r1 r2 Q q => by
  cases r2
  exact ⟨rfl, q _ F H (.d (.bool (isN x))) M (Same.refl F) m (by rw [re_isN r1]; exact Rp.bl _) p⟩
theorem o_notN (p : P (.d (.bool (!isN x))) M) : O2 J rNotN x (.d .none) M P := fun F Z H v u m xr r1 r2 Q q => by
  cases r2
  exact ⟨rfl, q _ F H (.d (.bool (!isN x))) M (Same.refl F) m (by rw [re_isN r1]; exact Rp.bl _) p⟩
/-! in -/
abbrev rInU (K : PySem.W.Frag) : R2 := rOr rInS (rOr (fun x y H Q => ∃ i j, x = .str i ∧ y = .str j ∧ Q (.bl (!(Builtin.Str.occurrences j i 0 j.length 1).isEmpty)) H) (rIn K false))
abbrev rNotInU (K : PySem.W.Frag) : R2 := rOr rNotInS (rOr (fun x y H Q => ∃ i j, x = .str i ∧ y = .str j ∧ Q (.bl (!(!(Builtin.Str.occurrences j i 0 j.length 1).isEmpty))) H) (rIn K true))
theorem op_inU {X : Cx} : OpR X (compareOp .In) (rInU X.K) := op_or2 op_in_sign (op_or2 op_in_str op_in_seq)
theorem op_notInU {X : Cx} : OpR X (compareOp .NotIn) (rNotInU X.K) := op_or2 op_notIn_sign (op_or2 op_notin_str op_notIn_seq)
theorem o_inC {c : Nat} {z : Str} (p : P (.d (.bool (decide (c ∈ z.cps.toList)))) M) : O2 J (rInU J.K) (.d (.str ⟨#[c]⟩)) (.d (.str z)) M P := o_l fun F Z H v u m xr r1 r2 Q q => by
  cases r1
  cases r2
  exact ⟨c, z, rfl, rfl, q _ F H (.d (.bool _)) M (Same.refl F) m (Rp.bl _) p⟩
theorem o_notInC {c : Nat} {z : Str} (p : P (.d (.bool (!decide (c ∈ z.cps.toList)))) M) : O2 J (rNotInU J.K) (.d (.str ⟨#[c]⟩)) (.d (.str z)) M P := o_l fun F Z H v u m xr r1 r2 Q q => by
  cases r1
  cases r2
  exact ⟨c, z, rfl, rfl, q _ F H (.d (.bool _)) M (Same.refl F) m (Rp.bl _) p⟩
theorem o_inT {i j : Str} (p : P (.d (.bool (!(Builtin.Str.occurrences j i 0 j.length 1).isEmpty))) M) : O2 J (rInU J.K) (.d (.str i)) (.d (.str j)) M P := o_r (o_l (o_SS (g := fun i j => .bl (!(Builtin.Str.occurrences j i 0 j.length 1).isEmpty)) (fun _ => Rp.bl _) p))
theorem inV_strs (s : Str) (ss : List Str) : inV (.str s) (ss.map V.str) = decide (s ∈ ss) := by
  induction ss with
  | nil => rfl
  | cons t ts ih =>
    show (eqV (.str t) (.str s) || inV (.str s) (ts.map V.str)) = _
    rw [ih]
    show ((t == s) || decide (s ∈ ts)) = _
    by_cases h : t = s
    · subst h
      simp
    · have h' : ¬ s = t := fun e => h e.symm
      simp [h, h']
theorem flat_strs (ss : List Str) : (ss.map V.str).all flatV = true := by
  induction ss with
  | nil => rfl
  | cons t ts ih => exact ih
theorem o_inTs {s : Str} {ss : List Str} (p : P (.d (.bool (decide (s ∈ ss)))) M) : O2 J (rInU J.K) (.d (.str s)) (.d (.tuple (ss.map PyData.str))) M P := o_r (o_r fun F Z H v u m xr r1 r2 Q q => by
  cases r1
  cases r2 with
  | tup e rs =>
    have ev := rs.strs
    subst ev
    refine ⟨_, _, rfl, .inr (sqT_mono m.sub e), rfl, flat_strs ss, ?_⟩
    rw [if_neg Bool.false_ne_true, inV_strs]
    exact q _ F H (.d (.bool _)) M (Same.refl F) m (Rp.bl _) p)
theorem o_notInTs {s : Str} {ss : List Str} (p : P (.d (.bool (!decide (s ∈ ss)))) M) : O2 J (rNotInU J.K) (.d (.str s)) (.d (.tuple (ss.map PyData.str))) M P := o_r (o_r fun F Z H v u m xr r1 r2 Q q => by
  cases r1
  cases r2 with
  | tup e rs =>
    have ev := rs.strs
    subst ev
    refine ⟨_, _, rfl, .inr (sqT_mono m.sub e), rfl, flat_strs ss, ?_⟩
    rw [if_pos rfl, inV_strs]
    exact q _ F H (.d (.bool _)) M (Same.refl F) m (Rp.bl _) p)
/-! items -/
theorem atI_map {α β : Type} (f : α → β) (xs : List α) (i : Int) : atI (xs.map f) i = (atI xs i).map f := by
  unfold atI
  rw [List.length_map]
  cases ixN xs.length i with
  | none => rfl
  | some j => simp
theorem atI_ex {K : PySem.W.Frag} {F : Hp} {vs : List V} {ds : List PyData} {i : Int} {d : PyData} (r : RpAll K F vs ds) (h : atI ds i = some d) : ∃ v, atI vs i = some v ∧ Rp K F v d := by
  unfold atI at h ⊢
  rw [r.length]
  cases e : ixN ds.length i with
  | none =>
    rw [e] at h
    cases h
  | some j =>
    rw [e] at h
    exact r.exGet h
theorem atE_ex {K : PySem.W.Frag} {F : Hp} {vs : List V} {ds : List Ent} {i : Int} {d : Ent} (r : REs K F vs ds) (h : atI ds i = some d) : ∃ v, atI vs i = some v ∧ RE K F v d := by
  unfold atI at h ⊢
  rw [r.length]
  cases e : ixN ds.length i with
  | none =>
    rw [e] at h
    cases h
  | some j =>
    rw [e] at h
    exact paired_get r h
theorem ixN_nat {n : Nat} {i : Int} (h0 : 0 ≤ i) (h1 : i < n) : ixN n i = some i.toNat := by
  unfold ixN
  rw [if_pos h0, if_pos h1]
theorem atI_nat' {α : Type} {xs : List α} {i : Int} {x : α} (h0 : 0 ≤ i) (h : xs[i.toNat]? = some x) : atI xs i = some x := by
  have h1 := (List.getElem?_eq_some_iff.mp h).1
  unfold atI
  rw [ixN_nat h0 (by omega)]
  exact h
theorem o_ixL {ds : List PyData} {i : Int} {d : PyData} (h : atI ds i = some d) (p : P (.d d) M) : O2 J (rIx J.K) (.d (.list ds)) (.d (.int i)) M P := fun F Z H v u m xr r1 r2 Q q => by
  cases r2
  cases r1 with
  | lst e rs =>
    obtain ⟨v, h1, h2⟩ := atI_ex rs h
    exact .inl ⟨_, _, i, v, rfl, rfl, .inl (.inl (m.sub _ _ e)), h1, q v F H (.d d) M (Same.refl F) m h2 p⟩
theorem o_ixW {ds : List PyData} {i : Int} {d : PyData} (h : atI ds i = some d) (p : P (.d d) M) : O2 J (rIx J.K) (.w ds) (.d (.int i)) M P := fun F Z H v u m xr r1 r2 Q q => by
  cases r2
  obtain ⟨a, vs, rfl, e, rs⟩ := r1
  obtain ⟨v, h1, h2⟩ := atI_ex rs h
  exact .inl ⟨_, _, i, v, rfl, rfl, m.sub.seq e, h1, q v F H (.d d) M (Same.refl F) m h2 p⟩
theorem o_ixT {ds : List PyData} {i : Int} {d : PyData} (h : atI ds i = some d) (p : P (.d d) M) : O2 J (rIx J.K) (.d (.tuple ds)) (.d (.int i)) M P := fun F Z H v u m xr r1 r2 Q q => by
  cases r2
  cases r1 with
  | tup e rs =>
    obtain ⟨v, h1, h2⟩ := atI_ex rs h
    exact .inr (.inl ⟨_, _, i, v, rfl, rfl, sqT_mono m.sub e, h1, q v F H (.d d) M (Same.refl F) m h2 p⟩)
theorem o_ixM {a : Addr} {es : List Ent} {i : Int} {d : Ent} (hm : M a = some (.lst es)) (h : atI es i = some d) (p : P d M) : O2 J (rIx J.K) (.r a) (.d (.int i)) M P := fun F Z H v u m xr r1 r2 Q q => by
  cases r2
  cases r1
  obtain ⟨vs, e, rs⟩ := m.list hm
  obtain ⟨v, h1, h2⟩ := atE_ex rs h
  exact .inl ⟨_, _, i, v, rfl, rfl, .inl (.inl e), h1, q v F H d M (Same.refl F) m h2 p⟩
theorem o_ixS {s : Str} {i : Int} {c : Nat} (hl : s.length ≤ sizeLine) (h : atI s.cps.toList i = some c) (p : P (.d (.str ⟨#[c]⟩)) M) : O2 J (rIx J.K) (.d (.str s)) (.d (.int i)) M P := fun F Z H v u m xr r1 r2 Q q => by
  cases r2
  cases r1
  exact .inr (.inr ⟨s, i, c, rfl, rfl, hl, h, q _ F H (.d (.str ⟨#[c]⟩)) M (Same.refl F) m (Rp.str _) p⟩)
end
/-! ## calls of built-ins -/
section
variable {J : Jx} {Γ : Ga} {M : Ms} {P : Ent → Ms → Prop} {r r' : List V → Hp → VK → Prop} {xs : List Ent} {t : TA}
def rOrN (r r' : List V → Hp → VK → Prop) : List V → Hp → VK → Prop := fun x H Q => r x H Q ∨ r' x H Q
theorem call_or {X : Cx} {f : Value} (h : CallR X f r) (h' : CallR X f r') : CallR X f (rOrN r r') := fun pins s σ H xs us Q I rx q => q.elim (h pins s σ H xs us Q I rx) (h' pins s σ H xs us Q I rx)
theorem n_l (h : ON J r xs M P) : ON J (rOrN r r') xs M P := fun F Z H vs m xr r1 Q q => .inl (h F Z H vs m xr r1 Q q)
theorem n_r (h : ON J r' xs M P) : ON J (rOrN r r') xs M P := fun F Z H vs m xr r1 Q q => .inr (h F Z H vs m xr r1 Q q)
theorem w_cb (h : WA J t Γ M fun es M1 => ON J r es M1 P) : Wx J (tCB r t) Γ M P := fun F Z σ H en m x Q q =>
  h F Z σ H en m x _ fun vs F1 H1 es M1 s1 m1 r1 h1 => h1 F1 Z H1 vs m1 (x.mono s1) r1 Q fun v F2 H2 e M2 s2 m2 r2 p => q v F2 H2 e M2 (s1.trans s2) m2 r2 p
theorem w_cb0 (h : ON J r [] M P) : Wx J (tCB r tNil) Γ M P := w_cb (wa_nil h)
abbrev rLenU (K : PySem.W.Frag) : List V → Hp → VK → Prop := fun xs H Q => ∃ x n, xs = [x] ∧ LenV K x H n ∧ Q (.int n) H
theorem n_lenS {s : Str} (hl : s.length ≤ sizeLine) (p : P (.d (.int (s.length : Int))) M) : ON J (rLenU J.K) [.d (.str s)] M P := fun F Z H vs m xr r1 Q q => by
  cases r1 with
  | cons r0 rt =>
    cases rt
    cases r0
    exact ⟨_, _, rfl, ⟨hl, rfl⟩, q _ F H (.d (.int _)) M (Same.refl F) m (Rp.int _) p⟩
theorem n_lenL {ds : List PyData} (p : P (.d (.int (ds.length : Int))) M) : ON J (rLenU J.K) [.d (.list ds)] M P := fun F Z H vs m xr r1 Q q => by
  cases r1 with
  | cons r0 rt =>
    cases rt
    cases r0 with
    | lst e rs => exact ⟨_, _, rfl, .inl ⟨_, .inl (.inl (m.sub _ _ e)), rs.length.symm⟩, q _ F H (.d (.int _)) M (Same.refl F) m (Rp.int _) p⟩
theorem n_lenT {ds : List PyData} (p : P (.d (.int (ds.length : Int))) M) : ON J (rLenU J.K) [.d (.tuple ds)] M P := fun F Z H vs m xr r1 Q q => by
  cases r1 with
  | cons r0 rt =>
    cases rt
    cases r0 with
    | tup e rs => exact ⟨_, _, rfl, .inr ⟨_, sqT_mono m.sub e, rs.length.symm⟩, q _ F H (.d (.int _)) M (Same.refl F) m (Rp.int _) p⟩
theorem n_lenW {ds : List PyData} (p : P (.d (.int (ds.length : Int))) M) : ON J (rLenU J.K) [.w ds] M P := fun F Z H vs m xr r1 Q q => by
  cases r1 with
  | cons r0 rt =>
    cases rt
    obtain ⟨a, vs, rfl, e, rs⟩ := r0
    exact ⟨_, _, rfl, .inl ⟨_, m.sub.seq e, rs.length.symm⟩, q _ F H (.d (.int _)) M (Same.refl F) m (Rp.int _) p⟩
theorem n_lenM {a : Addr} {es : List Ent} (hm : M a = some (.lst es)) (p : P (.d (.int (es.length : Int))) M) : ON J (rLenU J.K) [.r a] M P := fun F Z H vs m xr r1 Q q => by
  cases r1 with
  | cons r0 rt =>
    cases rt
    cases r0
    obtain ⟨vs, e, rs⟩ := m.list hm
    exact ⟨_, _, rfl, .inl ⟨_, .inl (.inl e), rs.length.symm⟩, q _ F H (.d (.int _)) M (Same.refl F) m (Rp.int _) p⟩
theorem n_abs {i : Int} (p : P (.d (.int (if i < 0 then -i else i))) M) : ON J (fun xs H Q => ∃ i, xs = [.int i] ∧ Q (.int (if i < 0 then -i else i)) H) [.d (.int i)] M P := fun F Z H vs m xr r1 Q q => by
  cases r1 with
  | cons r0 rt =>
    cases rt
    cases r0
    exact ⟨_, rfl, q _ F H (.d (.int _)) M (Same.refl F) m (Rp.int _) p⟩
theorem n_max2 {i j : Int} (p : P (.d (.int (if j > i then j else i))) M) : ON J (fun xs H Q => ∃ i j, xs = [.int i, .int j] ∧ Q (.int (if j > i then j else i)) H) [.d (.int i), .d (.int j)] M P := fun F Z H vs m xr r1 Q q => by
  cases r1 with
  | cons r0 rt =>
    cases rt with
    | cons r2 rt =>
      cases rt
      cases r0
      cases r2
      exact ⟨_, _, rfl, q _ F H (.d (.int _)) M (Same.refl F) m (Rp.int _) p⟩
theorem n_min2 {i j : Int} (p : P (.d (.int (if j < i then j else i))) M) : ON J (fun xs H Q => ∃ i j, xs = [.int i, .int j] ∧ Q (.int (if j < i then j else i)) H) [.d (.int i), .d (.int j)] M P := fun F Z H vs m xr r1 Q q => by
  cases r1 with
  | cons r0 rt =>
    cases rt with
    | cons r2 rt =>
      cases rt
      cases r0
      cases r2
      exact ⟨_, _, rfl, q _ F H (.d (.int _)) M (Same.refl F) m (Rp.int _) p⟩
abbrev rIntU : List V → Hp → VK → Prop := rOrN (fun xs H Q => (∃ i, xs = [.int i] ∧ Q (.int i) H) ∨ ∃ k, xs = [.bl k] ∧ Q (.int (if k then 1 else 0)) H) (fun xs H Q => ∃ a n, xs = [.str a] ∧ PySem.intText? a = some n ∧ a.length ≤ 640 ∧ Q (.int n) H)
theorem call_intU {X : Cx} : CallR X (.type "int") rIntU := call_or call_int1 call_int_str
theorem n_int {i : Int} (p : P (.d (.int i)) M) : ON J rIntU [.d (.int i)] M P := n_l fun F Z H vs m xr r1 Q q => by
  cases r1 with
  | cons r0 rt =>
    cases rt
    cases r0
    exact .inl ⟨_, rfl, q _ F H (.d (.int _)) M (Same.refl F) m (Rp.int _) p⟩
theorem n_intS {s : Str} {n : Int} (h : PySem.intText? s = some n) (hl : s.length ≤ 640) (p : P (.d (.int n)) M) : ON J rIntU [.d (.str s)] M P := n_r fun F Z H vs m xr r1 Q q => by
  cases r1 with
  | cons r0 rt =>
    cases rt
    cases r0
    exact ⟨_, _, rfl, h, hl, q _ F H (.d (.int _)) M (Same.refl F) m (Rp.int _) p⟩
theorem n_ord {c : Nat} (p : P (.d (.int (c : Int))) M) : ON J (fun xs H Q => ∃ x, xs = [.str x] ∧ x.length = 1 ∧ Q (.int (x.cps.getD 0 0 : Nat)) H) [.d (.str ⟨#[c]⟩)] M P := fun F Z H vs m xr r1 Q q => by
  cases r1 with
  | cons r0 rt =>
    cases rt
    cases r0
    exact ⟨_, rfl, rfl, q _ F H (.d (.int (c : Int))) M (Same.refl F) m (Rp.int _) p⟩
theorem n_sumW {ns : List Int} (p : P (.d (.int ns.sum)) M) : ON J (rSum J.K) [.w (ns.map PyData.int)] M P := fun F Z H vs m xr r1 Q q => by
  cases r1 with
  | cons r0 rt =>
    cases rt
    obtain ⟨a, vs, rfl, e, rs⟩ := r0
    have ev := rs.ints
    subst ev
    exact ⟨_, ns, rfl, m.sub.seq e, q _ F H (.d (.int _)) M (Same.refl F) m (Rp.int _) p⟩
theorem n_sum {ns : List Int} (p : P (.d (.int ns.sum)) M) : ON J (rSum J.K) [.d (.list (ns.map PyData.int))] M P := fun F Z H vs m xr r1 Q q => by
  cases r1 with
  | cons r0 rt =>
    cases rt
    cases r0 with
    | lst e rs =>
      have ev := rs.ints
      subst ev
      exact ⟨_, ns, rfl, .inl (.inl (m.sub _ _ e)), q _ F H (.d (.int _)) M (Same.refl F) m (Rp.int _) p⟩
theorem n_all {bs : List Bool} (p : P (.d (.bool (bs.all id))) M) : ON J (rAll J.K) [.d (.list (bs.map PyData.bool))] M P := fun F Z H vs m xr r1 Q q => by
  cases r1 with
  | cons r0 rt =>
    cases rt
    cases r0 with
    | lst e rs =>
      have ev := rs.bls
      subst ev
      exact ⟨_, bs, rfl, .inl (.inl (m.sub _ _ e)), q _ F H (.d (.bool _)) M (Same.refl F) m (Rp.bl _) p⟩
theorem n_any {bs : List Bool} (p : P (.d (.bool (bs.any id))) M) : ON J (rAny J.K) [.d (.list (bs.map PyData.bool))] M P := fun F Z H vs m xr r1 Q q => by
  cases r1 with
  | cons r0 rt =>
    cases rt
    cases r0 with
    | lst e rs =>
      have ev := rs.bls
      subst ev
      exact ⟨_, bs, rfl, .inl (.inl (m.sub _ _ e)), q _ F H (.d (.bool _)) M (Same.refl F) m (Rp.bl _) p⟩
abbrev rListU (K : PySem.W.Frag) : List V → Hp → VK → Prop := fun xs H Q => ∃ p ys, xs = [.ref p] ∧ (SqL K H p ys ∨ SqT K H p ys) ∧ ∀ l, H l = none → Q (.ref l) (upd H l (.lst ys))
theorem n_list {ds : List PyData} (p : P (.d (.list ds)) M) : ON J (rListU J.K) [.d (.list ds)] M P := fun F Z H vs m xr r1 Q q => by
  cases r1 with
  | cons r0 rt =>
    cases rt
    cases r0 with
    | lst e rs =>
      refine ⟨_, _, rfl, .inl (.inl (.inl (m.sub _ _ e))), fun a n => ?_⟩
      obtain ⟨s3, m3⟩ := m.newF (o := .lst _) n
      exact q _ _ _ (.d (.list ds)) M s3 m3 (Rp.lst upd_same (rs.mono s3)) p
theorem n_listW {ds : List PyData} (p : P (.d (.list ds)) M) : ON J (rListU J.K) [.w ds] M P := fun F Z H vs m xr r1 Q q => by
  cases r1 with
  | cons r0 rt =>
    cases rt
    obtain ⟨a, vs, rfl, e, rs⟩ := r0
    refine ⟨_, _, rfl, .inl (m.sub.seq e), fun a n => ?_⟩
    obtain ⟨s3, m3⟩ := m.newF (o := .lst _) n
    exact q _ _ _ (.d (.list ds)) M s3 m3 (Rp.lst upd_same (rs.mono s3)) p
/-- list(x) of a list that may change; the copy may change, too -/
theorem n_listM {ds : List PyData} (p : ∀ a, M a = none → P (.r a) (um M a (.lst (ds.map Ent.d)))) : ON J (rListU J.K) [.d (.list ds)] M P := fun F Z H vs m xr r1 Q q => by
  cases r1 with
  | cons r0 rt =>
    cases rt
    cases r0 with
    | lst e rs =>
      refine ⟨_, _, rfl, .inl (.inl (.inl (m.sub _ _ e))), fun a n => ?_⟩
      obtain ⟨nM, m3⟩ := m.newM (o := .lst _) (m := .lst (ds.map Ent.d)) n (res_of rs)
      exact q _ _ _ (.r a) _ (Same.refl F) m3 rfl (p a nM)
end
/-! ## methods of built-in types -/
section
variable {J : Jx} {Γ : Ga} {M : Ms} {P : Ent → Ms → Prop} {r : V → List V → Hp → VK → Prop} {x : Ent} {to te : TE} {t : TA} {T : String}
/-- the type of a value that has methods -/
def TyM (M : Ms) (T : String) : Ent → Prop
  | .d (.str _) => T = "str"
  | .d (.int _) => T = "int"
  | .d (.list _) => T = "list"
  | .w _ => T = "list"
  | .r a => T = "list" ∧ ∃ es, M a = some (.lst es)
  | _ => False
theorem tyM_ok {K : PySem.W.Frag} {F Z H : Hp} {v : V} {e : Ent} (m : Mem K F M Z H) (r : RE K F v e) (h : TyM M T e) : tyV K T v H := by
  cases e with
  | d x =>
    cases r with
    | str s => exact h
    | int s => exact h
    | lst e rs => exact .inl ⟨h, _, .inl (.inl (m.sub _ _ e))⟩
    | non => exact (h : False).elim
    | bl _ => exact (h : False).elim
    | tup _ _ => exact (h : False).elim
    | obj _ _ => exact (h : False).elim
  | r a =>
    obtain ⟨h1, es, h2⟩ := h
    obtain ⟨vs, e, _⟩ := m.list h2
    cases r
    exact .inl ⟨h1, vs, .inl (.inl e)⟩
  | t n => exact (h : False).elim
  | w xs =>
    obtain ⟨a, vs, rfl, e, rs⟩ := r
    exact .inl ⟨h, vs, m.sub.seq e⟩
theorem w_bm (h : Wx J to Γ M fun x M1 => TyM M1 T x ∧ WA J t Γ M1 fun es M2 => OM J r x es M2 P) : Wx J (tBM J.K T r to t) Γ M P := fun F Z σ H en m x Q q =>
  h F Z σ H en m x _ fun v F1 H1 e1 M1 s1 m1 r1 ⟨ht, h1⟩ => ⟨tyM_ok m1 r1 ht, h1 F1 Z σ H1 (en.mono s1) m1 (x.mono s1) _ fun vs F2 H2 es M2 s2 m2 r2 h2 =>
    h2 F2 Z H2 v vs m2 (x.mono (s1.trans s2)) (r1.mono s2) r2 Q fun w F3 H3 e3 M3 s3 m3 r3 p => q w F3 H3 e3 M3 ((s1.trans s2).trans s3) m3 r3 p⟩
theorem w_bm0 (h : Wx J to Γ M fun x M1 => TyM M1 T x ∧ OM J r x [] M1 P) : Wx J (tBM0 J.K T r to) Γ M P := fun F Z σ H en m x Q q =>
  h F Z σ H en m x _ fun v F1 H1 e1 M1 s1 m1 r1 ⟨ht, h1⟩ => ⟨tyM_ok m1 r1 ht, h1 F1 Z H1 v [] m1 (x.mono s1) r1 .nil Q fun w F3 H3 e3 M3 s3 m3 r3 p => q w F3 H3 e3 M3 (s1.trans s3) m3 r3 p⟩
theorem m_append {a : Addr} {es : List Ent} {y : Ent} (hm : M a = some (.lst es)) (hl : es.length < sizeLine) (p : P (.d .none) (um M a (.lst (es ++ [y])))) : OM J rAppend (.r a) [y] M P := fun F Z H v vs m xr r1 r2 Q q => by
  cases r1
  cases r2 with
  | cons r0 rt =>
    cases rt
    obtain ⟨vs, e, rs⟩ := m.list hm
    exact ⟨_, _, _, rfl, rfl, e, by rw [rs.length]; exact hl, q _ F _ (.d .none) _ (Same.refl F) (m.write (o := .lst _) (m := .lst (es ++ [y])) hm (paired_append rs (.cons r0 .nil))) Rp.non p⟩
theorem m_SS {g : Str → Str → V} {d : PyData} {a b : Str} (hg : ∀ F, Rp J.K F (g a b) d) (p : P (.d d) M) : OM J (fun x xs H Q => ∃ a b, x = .str a ∧ xs = [.str b] ∧ Q (g a b) H) (.d (.str a)) [.d (.str b)] M P := fun F Z H v vs m xr r1 r2 Q q => by
  cases r1
  cases r2 with
  | cons r0 rt =>
    cases rt
    cases r0
    exact ⟨a, b, rfl, rfl, q _ F H (.d d) M (Same.refl F) m (hg F) p⟩
theorem m_startswith {a b : Str} (p : P (.d (.bool (Txt.startswith a b))) M) : OM J (fun x xs H Q => ∃ a b, x = .str a ∧ xs = [.str b] ∧ Q (.bl (Txt.startswith a b)) H) (.d (.str a)) [.d (.str b)] M P := m_SS (g := fun a b => .bl (Txt.startswith a b)) (fun _ => Rp.bl _) p
theorem m_endswith {a b : Str} (p : P (.d (.bool (Txt.endswith a b))) M) : OM J (fun x xs H Q => ∃ a b, x = .str a ∧ xs = [.str b] ∧ Q (.bl (Txt.endswith a b)) H) (.d (.str a)) [.d (.str b)] M P := m_SS (g := fun a b => .bl (Txt.endswith a b)) (fun _ => Rp.bl _) p
theorem m_find {a b : Str} (p : P (.d (.int (Txt.find a b))) M) : OM J (fun x xs H Q => ∃ a b, x = .str a ∧ xs = [.str b] ∧ Q (.int (Txt.find a b)) H) (.d (.str a)) [.d (.str b)] M P := m_SS (g := fun a b => .int (Txt.find a b)) (fun _ => Rp.int _) p
theorem m_strip {a b : Str} (hl : a.length ≤ sizeLine) (p : P (.d (.str (Txt.stripChars a b))) M) : OM J (fun x xs H Q => ∃ a b, x = .str a ∧ xs = [.str b] ∧ a.length ≤ sizeLine ∧ Q (.str (Txt.stripChars a b)) H) (.d (.str a)) [.d (.str b)] M P := fun F Z H v vs m xr r1 r2 Q q => by
  cases r1
  cases r2 with
  | cons r0 rt =>
    cases rt
    cases r0
    exact ⟨a, b, rfl, rfl, hl, q _ F H (.d (.str _)) M (Same.refl F) m (Rp.str _) p⟩
theorem m_split {a b : Str} (hb : (b.length == 0) = false) (hl : a.length + 2 ≤ sizeLine) (p : P (.d (.list ((Txt.split a b).map PyData.str))) M) : OM J (fun x xs H Q => ∃ a b, x = .str a ∧ xs = [.str b] ∧ (b.length == 0) = false ∧ a.length + 2 ≤ sizeLine ∧ rNewStrs (Txt.split a b) H Q) (.d (.str a)) [.d (.str b)] M P := fun F Z H v vs m xr r1 r2 Q q => by
  cases r1
  cases r2 with
  | cons r0 rt =>
    cases rt
    cases r0
    refine ⟨a, b, rfl, rfl, hb, hl, fun l n => ?_⟩
    obtain ⟨s3, m3⟩ := m.newF (o := .lst _) n
    exact q _ _ _ (.d (.list _)) M s3 m3 (Rp.lst upd_same (RpAll.ofStrs _)) p
theorem m_join {a : Str} {ys : List Str} (hl : (ys.map (·.length)).sum + ys.length * a.length ≤ 16777216) (p : P (.d (.str (Txt.join a ys))) M) : OM J (fun x xs H Q => ∃ a p, ∃ ys : List Str, x = .str a ∧ xs = [.ref p] ∧ (SqL J.K H p (ys.map V.str) ∨ SqT J.K H p (ys.map V.str)) ∧
    (ys.map (·.length)).sum + ys.length * a.length ≤ 16777216 ∧ Q (.str (Txt.join a ys)) H) (.d (.str a)) [.d (.list (ys.map PyData.str))] M P := fun F Z H v vs m xr r1 r2 Q q => by
  cases r1
  cases r2 with
  | cons r0 rt =>
    cases rt
    cases r0 with
    | lst e rs =>
      have ev := rs.strs
      subst ev
      exact ⟨a, _, ys, rfl, rfl, .inl (.inl (.inl (m.sub _ _ e))), hl, q _ F H (.d (.str _)) M (Same.refl F) m (Rp.str _) p⟩
theorem w_m1 (h : Wx J to Γ M fun x M1 => (∃ s, x = .d (.str s)) ∧ Wx J te Γ M1 fun y M2 => OM J r x [y] M2 P) : Wx J (tM1 r to te) Γ M P := fun F Z σ H en m x Q q =>
  h F Z σ H en m x _ fun v F1 H1 e1 M1 s1 m1 r1 ⟨⟨s, hs⟩, h1⟩ => by
    subst hs
    have r1' := r1
    cases r1
    exact ⟨⟨_, rfl⟩, h1 F1 Z σ H1 (en.mono s1) m1 (x.mono s1) _ fun u F2 H2 es M2 s2 m2 r2 h2 =>
      h2 F2 Z H2 _ [u] m2 (x.mono (s1.trans s2)) (Rp.str s) (.cons r2 .nil) Q fun w F3 H3 e3 M3 s3 m3 r3 p => q w F3 H3 e3 M3 ((s1.trans s2).trans s3) m3 r3 p⟩
end
/-! ## slices -/
section
variable {J : Jx} {Γ : Ga} {M : Ms} {te : TE} {B : Option Int → Ms → Prop}
def WO (J : Jx) (t : TO) (Γ : Ga) (M : Ms) (P : Option Int → Ms → Prop) : Prop := ∀ F Z σ H, EnvOk J.K F σ Γ → Mem J.K F M Z H → XR J F Z → ∀ Q : Option Int → Hp → Prop,
  (∀ o F' H' M', Same F F' → Mem J.K F' M' Z H' → P o M' → Q o H') → t σ H Q
theorem wo_none (p : B none M) : WO J tNoPart Γ M B := fun F Z σ H en m x Q q => q none F H M (Same.refl F) m p
theorem wo_some (h : Wx J te Γ M fun e M1 => ∃ i, e = .d (.int i) ∧ B (some i) M1) : WO J (tPart te) Γ M B := fun F Z σ H en m x Q q =>
  h F Z σ H en m x _ fun v F1 H1 e M1 s1 m1 r1 ⟨i, ei, p⟩ => by
    subst ei
    cases r1
    exact ⟨i, rfl, q _ F1 H1 M1 s1 m1 p⟩
end
section
variable {J : Jx} {Γ : Ga} {M : Ms} {P : Ent → Ms → Prop} {te tx : TE} {tl th : TO} {B : Option Int → Ms → Prop}
def OS (J : Jx) (r : V → Option Int → Option Int → Hp → VK → Prop) (x : Ent) (lo hi : Option Int) (M : Ms) (P : Ent → Ms → Prop) : Prop := ∀ F Z H v, Mem J.K F M Z H → XR J F Z → RE J.K F v x → ∀ Q : VK,
  (∀ v F' H' e M', Same F F' → Mem J.K F' M' Z H' → RE J.K F' v e → P e M' → Q v H') → r v lo hi H Q
theorem w_slice {r : V → Option Int → Option Int → Hp → VK → Prop} (h : Wx J te Γ M fun x M1 => WO J tl Γ M1 fun lo M2 => WO J th Γ M2 fun hi M3 => OS J r x lo hi M3 P) : Wx J (tSl r te tl th) Γ M P := fun F Z σ H en m x Q q =>
  h F Z σ H en m x _ fun v F1 H1 e1 M1 s1 m1 r1 h1 => h1 F1 Z σ H1 (en.mono s1) m1 (x.mono s1) _ fun lo F2 H2 M2 s2 m2 h2 =>
    h2 F2 Z σ H2 (en.mono (s1.trans s2)) m2 (x.mono (s1.trans s2)) _ fun hi F3 H3 M3 s3 m3 h3 => h3 F3 Z H3 v m3 (x.mono ((s1.trans s2).trans s3)) (r1.mono (s2.trans s3)) Q
      fun w F4 H4 e4 M4 s4 m4 r4 p => q w F4 H4 e4 M4 (((s1.trans s2).trans s3).trans s4) m4 r4 p
abbrev rSlU (K : PySem.W.Frag) : V → Option Int → Option Int → Hp → VK → Prop := fun x lo hi H Q => rSlS x lo hi H Q ∨ rSlL K x lo hi H Q
theorem sl_or {X : Cx} {r r' : V → Option Int → Option Int → Hp → VK → Prop} (h : SlR X r) (h' : SlR X r') : SlR X (fun x lo hi H Q => r x lo hi H Q ∨ r' x lo hi H Q) := fun pins s σ H x v vl vu lo hi sl Q I rx i1 i2 i3 q => q.elim (h pins s σ H x v vl vu lo hi sl Q I rx i1 i2 i3) (h' pins s σ H x v vl vu lo hi sl Q I rx i1 i2 i3)
theorem sl_U {X : Cx} : SlR X (rSlU X.K) := sl_or sl_str sl_list
theorem l_str {s : Str} {lo hi : Option Int} (hl : s.length ≤ sizeLine) (p : P (.d (.str (cutS s lo hi))) M) : OS J (rSlU J.K) (.d (.str s)) lo hi M P := fun F Z H v m xr r1 Q q => by
  cases r1
  exact .inl ⟨s, rfl, hl, q _ F H (.d (.str _)) M (Same.refl F) m (Rp.str _) p⟩
def cutD (xs : List PyData) (lo hi : Option Int) : List PyData := (xs.drop (HT.sIx xs.length 0 lo)).take (HT.sIx xs.length xs.length hi - HT.sIx xs.length 0 lo)
theorem cut_rp {K : PySem.W.Frag} {F : Hp} {vs : List V} {ds : List PyData} (r : RpAll K F vs ds) (lo hi : Option Int) : RpAll K F (cutV vs lo hi) (cutD ds lo hi) := by
  unfold cutV cutD
  rw [r.length]
  exact (r.drop _).take _
theorem l_list {ds : List PyData} {lo hi : Option Int} (p : P (.d (.list (cutD ds lo hi))) M) : OS J (rSlU J.K) (.d (.list ds)) lo hi M P := fun F Z H v m xr r1 Q q => by
  cases r1 with
  | lst e rs =>
    refine .inr ⟨_, _, rfl, .inl (.inl (m.sub _ _ e)), fun a n => ?_⟩
    obtain ⟨s3, m3⟩ := m.newF (o := .lst _) n
    exact q _ _ _ (.d (.list _)) M s3 m3 (Rp.lst upd_same ((cut_rp rs lo hi).mono s3)) p
theorem l_listW {ds : List PyData} {lo hi : Option Int} (p : P (.d (.list (cutD ds lo hi))) M) : OS J (rSlU J.K) (.w ds) lo hi M P := fun F Z H v m xr r1 Q q => by
  obtain ⟨a, vs, rfl, e, rs⟩ := r1
  refine .inr ⟨_, _, rfl, m.sub.seq e, fun a n => ?_⟩
  obtain ⟨s3, m3⟩ := m.newF (o := .lst _) n
  exact q _ _ _ (.d (.list _)) M s3 m3 (Rp.lst upd_same ((cut_rp rs lo hi).mono s3)) p
end
end Z
set_option Elab.async false
set_option linter.all false
set_option maxRecDepth 100000
set_option maxHeartbeats 4000000
namespace Z
open PySem PySem.Spec L2
/-! ## what is walked -/
/-- J gives the items its, one by one, as long as G holds of what may change -/
structure AW (K : PySem.W.Frag) (F Z : Hp) (I : It) (its : List Ent) (G : Ms → Prop) : Prop where
  goes : ∀ F1 M H i, Same F F1 → Mem K F1 M Z H → G M → i < its.length → I.go i H
  stops : ∀ F1 M H, Same F F1 → Mem K F1 M Z H → G M → I.stop its.length H
  yields : ∀ F1 M H i x H', Same F F1 → Mem K F1 M Z H → G M → i < its.length → I.yld i H x H' → ∃ F2 e, Same F1 F2 ∧ Mem K F2 M Z H' ∧ its[i]? = some e ∧ RE K F2 x e
def WI (J : Jx) (wi : TI) (Γ : Ga) (M : Ms) (P : List Ent → (Ms → Prop) → Ms → Prop) : Prop := ∀ F Z σ H, EnvOk J.K F σ Γ → Mem J.K F M Z H → XR J F Z → ∀ R : It → Hp → Prop,
  (∀ I F' H' M' its G, Same F F' → Mem J.K F' M' Z H' → (∀ Z', (∀ a o, Z a = some o → Z' a = some o) → AW J.K F' Z' I its G) → P its G M' → R I H') → wi σ H R
abbrev GT0 : Ms → Prop := fun _ => True
section
variable {J : Jx} {Γ : Ga} {M : Ms} {P : List Ent → (Ms → Prop) → Ms → Prop} {te : TE} {ta : TA}
/-- an item that stands still -/
theorem aw_at {K : PySem.W.Frag} {F Z : Hp} {I : It} {ds : List PyData} {vs : List V} {S : Hp → Prop} {G : Ms → Prop} (w : Walk I vs.length S (YAt vs)) (hS : ∀ F1 M H, Same F F1 → Mem K F1 M Z H → G M → S H) (r : RpAll K F vs ds) : AW K F Z I (ds.map Ent.d) G where
  goes := fun F1 M H i s m g hi => w.goes i H (by rw [r.length]; rw [List.length_map] at hi; exact hi) (hS F1 M H s m g)
  stops := fun F1 M H s m g => by
    have q := w.stops H (hS F1 M H s m g)
    rw [r.length] at q
    rw [List.length_map]
    exact q
  yields := fun F1 M H i x H' s m g hi y => by
    rw [List.length_map] at hi
    obtain ⟨e1, e2⟩ := w.yields i H x H' (by rw [r.length]; exact hi) (hS F1 M H s m g) y
    subst e1
    refine ⟨F1, .d ds[i], Same.refl F1, m, by rw [List.getElem?_map, List.getElem?_eq_getElem hi]; rfl, ?_⟩
    exact (r.get e2 (List.getElem?_eq_getElem hi)).mono s
theorem wi_list (h : Wx J te Γ M fun x M1 => ∃ ds, x = .d (.list ds) ∧ P (ds.map Ent.d) GT0 M1) : WI J (iList J.K te) Γ M P := fun F Z σ H en m x R q =>
  h F Z σ H en m x _ fun v F1 H1 e M1 s1 m1 r1 ⟨ds, ed, p⟩ => by
    subst ed
    cases r1 with
    | lst ea rs => exact ⟨_, rfl, ⟨_, .inl (.inl (m1.sub _ _ ea))⟩, q _ F1 H1 M1 _ GT0 s1 m1 (fun Z' _ => aw_at walk_list (fun F2 M2 H2 s2 m2 _ => .inl (.inl (m2.sub _ _ (s2 _ _ ea)))) rs) p⟩
theorem wi_listW (h : Wx J te Γ M fun x M1 => ∃ ds, x = .w ds ∧ P (ds.map Ent.d) GT0 M1) : WI J (iList J.K te) Γ M P := fun F Z σ H en m x R q =>
  h F Z σ H en m x _ fun v F1 H1 e M1 s1 m1 r1 ⟨ds, ed, p⟩ => by
    subst ed
    obtain ⟨a, vs, rfl, ea, rs⟩ := r1
    exact ⟨_, rfl, ⟨_, m1.sub.seq ea⟩, q _ F1 H1 M1 _ GT0 s1 m1 (fun Z' _ => aw_at walk_list (fun F2 M2 H2 s2 m2 _ => m2.sub.seq (s2.seq ea)) rs) p⟩
theorem wi_tup (h : Wx J te Γ M fun x M1 => ∃ ds, x = .d (.tuple ds) ∧ P (ds.map Ent.d) GT0 M1) : WI J (iTup J.K te) Γ M P := fun F Z σ H en m x R q =>
  h F Z σ H en m x _ fun v F1 H1 e M1 s1 m1 r1 ⟨ds, ed, p⟩ => by
    subst ed
    cases r1 with
    | tup ea rs => exact ⟨_, rfl, ⟨_, sqT_mono m1.sub ea⟩, q _ F1 H1 M1 _ GT0 s1 m1 (fun Z' _ => aw_at walk_tup (fun F2 M2 H2 s2 m2 _ => sqT_mono m2.sub (sqT_mono s2 ea)) rs) p⟩
/-- a list that may change, but does not while it is walked -/
theorem wi_listM (h : Wx J te Γ M fun x M1 => ∃ a es, x = .r a ∧ M1 a = some (.lst es) ∧ P es (fun M2 => M2 a = some (.lst es)) M1) : WI J (iList J.K te) Γ M P := fun F Z σ H en m x R q =>
  h F Z σ H en m x _ fun v F1 H1 e M1 s1 m1 r1 ⟨a, es, ed, hm, p⟩ => by
    subst ed
    cases r1
    obtain ⟨vs, ea, rs⟩ := m1.list hm
    refine ⟨_, rfl, ⟨_, .inl (.inl ea)⟩, q _ F1 H1 M1 _ _ s1 m1 (fun Z' _ => ⟨fun F2 M2 H2 i s2 m2 g hi => ?_, fun F2 M2 H2 s2 m2 g => ?_, fun F2 M2 H2 i x H' s2 m2 g hi y => ?_⟩) p⟩
    · obtain ⟨ws, eb, qs⟩ := m2.list g
      exact (walk_list (xs := ws)).goes i H2 (by rw [qs.length]; exact hi) (.inl (.inl eb))
    · obtain ⟨ws, eb, qs⟩ := m2.list g
      have z := (walk_list (K := J.K) (a := a) (xs := ws)).stops H2 (.inl (.inl eb))
      rw [qs.length] at z
      exact z
    · obtain ⟨ws, eb, qs⟩ := m2.list g
      obtain ⟨e1, e2⟩ := (walk_list (K := J.K) (a := a) (xs := ws)).yields i H2 x H' (by rw [qs.length]; exact hi) (.inl (.inl eb)) y
      subst e1
      have e3 : es[i]? = some es[i] := List.getElem?_eq_getElem hi
      obtain ⟨x', e4, r4⟩ := paired_get qs e3
      rw [e2] at e4
      cases e4
      exact ⟨F2, es[i], Same.refl F2, m2, e3, r4⟩
theorem aw_fn {K : PySem.W.Frag} {F Z : Hp} {I : It} {n : Nat} {f : Nat → V} {g : Nat → PyData} (w : Walk I n (fun _ => True) (YFn f)) (hg : ∀ i F, Rp K F (f i) (g i)) : AW K F Z I ((List.range n).map fun i => Ent.d (g i)) GT0 where
  goes := fun F1 M H i s m _ hi => w.goes i H (by simpa using hi) trivial
  stops := fun F1 M H s m _ => by
    have q := w.stops H trivial
    simpa using q
  yields := fun F1 M H i x H' s m _ hi y => by
    have hi' : i < n := by simpa using hi
    obtain ⟨e1, e2⟩ := w.yields i H x H' hi' trivial y
    subst e1
    subst e2
    exact ⟨F1, .d (g i), Same.refl F1, m, by rw [List.getElem?_map, List.getElem?_range hi']; rfl, hg i F1⟩
/-- the ints lo, lo + 1, .. -/
def rgE (lo : Int) (n : Nat) : List Ent := (List.range n).map fun i => Ent.d (.int (lo + (i : Nat)))
theorem rgE_len (lo : Int) (n : Nat) : (rgE lo n).length = n := by simp [rgE]
theorem rgE_get {lo : Int} {n i : Nat} {e : Ent} (h : (rgE lo n)[i]? = some e) : i < n ∧ e = .d (.int (lo + (i : Nat))) := by
  have hi : i < n := by
    have := (List.getElem?_eq_some_iff.mp h).1
    rwa [rgE_len] at this
  refine ⟨hi, ?_⟩
  unfold rgE at h
  rw [List.getElem?_map, List.getElem?_range hi] at h
  exact (Option.some.inj h).symm
theorem wi_range1 (h : WA J ta Γ M fun es M1 => ∃ j, es = [.d (.int j)] ∧ -(2 ^ 62) ≤ j ∧ j < 2 ^ 62 ∧ P (rgE 0 j.toNat) GT0 M1) : WI J (iRng1 ta) Γ M P := fun F Z σ H en m x R q =>
  h F Z σ H en m x _ fun vs F1 H1 es M1 s1 m1 r1 ⟨j, ed, h1, h2, p⟩ => by
    subst ed
    cases r1 with
    | cons r0 rt =>
      cases rt
      cases r0
      exact ⟨j, rfl, h1, h2, q _ F1 H1 M1 _ GT0 s1 m1 (fun Z' _ => aw_fn walk_range fun i F => Rp.int _) p⟩
theorem wi_range2 (h : WA J ta Γ M fun es M1 => ∃ i j, es = [.d (.int i), .d (.int j)] ∧ (-(2 ^ 62) ≤ i ∧ i < 2 ^ 62 ∧ -(2 ^ 62) ≤ j ∧ j < 2 ^ 62) ∧ P (rgE i (j - i).toNat) GT0 M1) : WI J (iRng2 ta) Γ M P := fun F Z σ H en m x R q =>
  h F Z σ H en m x _ fun vs F1 H1 es M1 s1 m1 r1 ⟨i, j, ed, h1, p⟩ => by
    subst ed
    cases r1 with
    | cons r0 rt =>
      cases rt with
      | cons r2 rt =>
        cases rt
        cases r0
        cases r2
        exact ⟨i, j, rfl, h1, q _ F1 H1 M1 _ GT0 s1 m1 (fun Z' _ => aw_fn walk_range fun i F => Rp.int _) p⟩
/-- the signs of a text -/
def sgE (s : Str) : List Ent := s.cps.toList.map fun c => Ent.d (.str ⟨#[c]⟩)
theorem sgE_len (s : Str) : (sgE s).length = s.length := by simp [sgE, Str.length]
theorem sgE_get {s : Str} {i : Nat} {e : Ent} (h : (sgE s)[i]? = some e) : ∃ c, s.cps.toList[i]? = some c ∧ e = .d (.str ⟨#[c]⟩) := by
  unfold sgE at h
  rw [List.getElem?_map] at h
  cases q : s.cps.toList[i]? with
  | none =>
    rw [q] at h
    cases h
  | some c =>
    rw [q] at h
    exact ⟨c, rfl, (Option.some.inj h).symm⟩
theorem wi_str (h : Wx J te Γ M fun x M1 => ∃ s, x = .d (.str s) ∧ P (sgE s) GT0 M1) : WI J (iStr te) Γ M P := fun F Z σ H en m x R q =>
  h F Z σ H en m x _ fun v F1 H1 e M1 s1 m1 r1 ⟨s, ed, p⟩ => by
    subst ed
    cases r1
    refine ⟨s, rfl, q _ F1 H1 M1 _ GT0 s1 m1 (fun Z' _ => ⟨fun F2 M2 H2 i s2 m2 _ hi => ?_, fun F2 M2 H2 s2 m2 _ => ?_, fun F2 M2 H2 i x H' s2 m2 _ hi y => ?_⟩) p⟩
    · rw [sgE_len] at hi
      exact walk_str.goes i H2 hi trivial
    · rw [sgE_len]
      exact walk_str.stops H2 trivial
    · rw [sgE_len] at hi
      obtain ⟨e1, c, e2, e3⟩ := walk_str.yields i H2 x H' hi trivial y
      subst e1
      subst e3
      refine ⟨F2, .d (.str ⟨#[c]⟩), Same.refl F2, m2, ?_, Rp.str _⟩
      unfold sgE
      rw [List.getElem?_map, Array.getElem?_toList, e2]
      rfl
end
/-! ## loops -/
section
variable {J : Jx} {Γ : Ga} {M : Ms} {D : Nd} {wi : TI} {g : TG} {tb : TS} {tt : TT} {te : TE} {P : Ent → Ms → Prop}
theorem s_for (h : WI J wi Γ M fun its G M1 => ∃ Iv : Nat → Ga → Ms → Prop, Iv 0 Γ M1 ∧ (∀ i Γ' M', i ≤ its.length → Iv i Γ' M' → G M') ∧
    (∀ i e Γ' M', its[i]? = some e → Iv i Γ' M' → GT J g e Γ' M' fun Γ2 M2 => Sx J tb { D with nx := Iv (i + 1), ct := Iv (i + 1), bk := D.nx } Γ2 M2) ∧ (∀ Γ' M', Iv its.length Γ' M' → D.nx Γ' M')) : Sx J (tFor wi g tb) D Γ M := fun F Z σ H C en m x d =>
  h F Z σ H en m x _ fun I F1 H1 M1 its G s1 m1 aw ⟨Iv, h0, hG, hs, hd⟩ => by
    have aw1 := aw Z fun _ _ z => z
    refine ⟨fun i n σ' H' => n = its.length - i ∧ i ≤ its.length ∧ ∃ F' Γ' M', Same F1 F' ∧ EnvOk J.K F' σ' Γ' ∧ Mem J.K F' M' Z H' ∧ Iv i Γ' M', ⟨its.length, by simp, Nat.zero_le _, F1, Γ, M1, Same.refl F1, en.mono s1, m1, h0⟩, ?_⟩
    rintro i n σ' H' ⟨rfl, hi, F', Γ', M', s', e', m', iv⟩
    have g' := hG i Γ' M' hi iv
    by_cases hlt : i < its.length
    · refine .inr ⟨aw1.goes F' M' H' i s' m' g' hlt, fun σ2 H2 => ∃ F' Γ' M', Same F1 F' ∧ EnvOk J.K F' σ2 Γ' ∧ Mem J.K F' M' Z H2 ∧ Iv (i + 1) Γ' M', fun σ2 H2 q => ⟨its.length - (i + 1), by omega, rfl, hlt, q⟩, fun v H2 y => ?_⟩
      obtain ⟨F2, e, s2, m2, ei, r2⟩ := aw1.yields F' M' H' i v H2 s' m' g' hlt y
      refine hs i e Γ' M' ei iv F2 Z σ' H2 v (e'.mono s2) m2 (x.mono ((s1.trans s').trans s2)) r2 _ fun F3 H3 σ3 Γ3 M3 s3 m3 e3 k => ?_
      have s03 := ((s1.trans s').trans s2).trans s3
      have s13 := (s'.trans s2).trans s3
      exact k F3 Z σ3 H3 _ e3 m3 (x.mono s03) ⟨fun F4 M4 H4 σ4 Γ4 s4 m4 e4 q => ⟨F4, Γ4, M4, s13.trans s4, e4, m4, q⟩, (d.mono s03).rt, (d.mono s03).nx, fun F4 M4 H4 σ4 Γ4 s4 m4 e4 q => ⟨F4, Γ4, M4, s13.trans s4, e4, m4, q⟩⟩
    · have e : i = its.length := by omega
      subst e
      exact .inl ⟨aw1.stops F' M' H' s' m' g', (d.mono (s1.trans s')).nx F' M' H' σ' Γ' (Same.refl F') m' e' (hd Γ' M' iv)⟩
theorem s_while {c : TT} (Iv : Nat → Ga → Ms → Prop) (n0 : Nat) (h0 : Iv n0 Γ M) (hs : ∀ n Γ' M', Iv n Γ' M' → WT J c Γ' M' fun b M1 => (b = true → Sx J tb { D with nx := fun Γ2 M2 => ∃ n2, n2 < n ∧ Iv n2 Γ2 M2, ct := fun Γ2 M2 => ∃ n2, n2 < n ∧ Iv n2 Γ2 M2, bk := D.nx } Γ' M1) ∧ (b = false → D.nx Γ' M1)) :
    Sx J (tWhile c tb) D Γ M := fun F Z σ H C en m x d => by
  refine ⟨fun n σ' H' => ∃ F' Γ' M', Same F F' ∧ EnvOk J.K F' σ' Γ' ∧ Mem J.K F' M' Z H' ∧ Iv n Γ' M', ⟨n0, F, Γ, M, Same.refl F, en, m, h0⟩, ?_⟩
  rintro n σ' H' ⟨F', Γ', M', s', e', m', iv⟩
  refine hs n Γ' M' iv F' Z σ' H' e' m' (x.mono s') _ fun b F1 H1 M1 s1 m1 ⟨h1, h2⟩ => ?_
  cases b with
  | true =>
    rw [if_pos rfl]
    refine ⟨fun σ2 H2 => ∃ n2, n2 < n ∧ ∃ F' Γ' M', Same F F' ∧ EnvOk J.K F' σ2 Γ' ∧ Mem J.K F' M' Z H2 ∧ Iv n2 Γ' M', fun σ2 H2 ⟨n2, l, q⟩ => ⟨n2, l, q⟩, ?_⟩
    have s01 := s'.trans s1
    exact h1 rfl F1 Z σ' H1 _ (e'.mono s1) m1 (x.mono s01) ⟨fun F4 M4 H4 σ4 Γ4 s4 m4 e4 ⟨n2, l, q⟩ => ⟨n2, l, F4, Γ4, M4, s01.trans s4, e4, m4, q⟩, (d.mono s01).rt, (d.mono s01).nx, fun F4 M4 H4 σ4 Γ4 s4 m4 e4 ⟨n2, l, q⟩ => ⟨n2, l, F4, Γ4, M4, s01.trans s4, e4, m4, q⟩⟩
  | false =>
    rw [if_neg Bool.false_ne_true]
    exact d.nx F1 M1 H1 σ' Γ' (s'.trans s1) m1 (e'.mono s1) (h2 rfl)
end
/-! ## comprehensions -/
def wipeG (Γ : Ga) : List Nat → Ga
  | [] => Γ
  | i :: r => (wipeG Γ r).set i none
theorem EnvOk.wipe {K : PySem.W.Frag} {F : Hp} {σ : L2.St} {Γ : Ga} (h : EnvOk K F σ Γ) : ∀ vs : List Nat, EnvOk K F (wipe σ vs) (wipeG Γ vs)
  | [] => h
  | v :: vs => (EnvOk.wipe h vs).wipe1 v none
theorem wipe_set_any {j : Nat} {x : Option V} (y : Option V) : ∀ (vs : List Nat) (σ : L2.St), (wipe (σ.set j x) vs).set j y = (wipe σ vs).set j y
  | [], σ => by show (σ.set j x).set j y = σ.set j y; rw [List.set_set]
  | v :: vs, σ => by
    show ((wipe (σ.set j x) vs).set v none).set j y = ((wipe σ vs).set v none).set j y
    by_cases h : v = j
    · subst h
      rw [List.set_set, List.set_set, wipe_set_any y vs σ]
    · rw [List.set_comm _ _ h, List.set_comm _ _ h, wipe_set_any y vs σ]
theorem wipe_set_mem {j : Nat} {x : Option V} : ∀ {vs : List Nat} (σ : L2.St), j ∈ vs → wipe (σ.set j x) vs = wipe σ vs
  | v :: vs, σ, h => by
    show (wipe (σ.set j x) vs).set v none = (wipe σ vs).set v none
    by_cases e : v = j
    · subst e
      exact wipe_set_any none vs σ
    · rw [wipe_set_mem σ ((List.mem_cons.mp h).resolve_left fun q => e q.symm)]
theorem wipe_wipe (σ : L2.St) : ∀ vs ws : List Nat, (∀ i ∈ ws, i ∈ vs) → wipe (wipe σ ws) vs = wipe σ vs
  | vs, [], _ => rfl
  | vs, w :: ws, h => by
    show wipe ((wipe σ ws).set w none) vs = wipe σ vs
    rw [wipe_set_mem _ (h w (List.mem_cons_self ..)), wipe_wipe σ vs ws fun i hi => h i (List.mem_cons_of_mem _ hi)]
/-- the target stores names of vs alone -/
def WpOk (g : TG) (vs : List Nat) : Prop := ∀ v σ H (Q : L2.St → Hp → Prop), g v σ H Q → g v σ H fun σ2 H2 => wipe σ2 vs = wipe σ vs ∧ Q σ2 H2
def WpsOk (g : TGs) (vs : List Nat) : Prop := ∀ v σ H (Q : L2.St → Hp → Prop), g v σ H Q → g v σ H fun σ2 H2 => wipe σ2 vs = wipe σ vs ∧ Q σ2 H2
theorem wp_name {j : Nat} {vs : List Nat} (h : j ∈ vs) : WpOk (gName j) vs := fun v σ H Q q => ⟨wipe_set_mem σ h, q⟩
theorem wps_nil {vs : List Nat} : WpsOk gNil vs := fun v σ H Q q => ⟨q.1, rfl, q.2⟩
theorem wps_cons {j : Nat} {u : TGs} {vs : List Nat} (h : j ∈ vs) (hu : WpsOk u vs) : WpsOk (gCons (gName j) u) vs := fun v σ H Q ⟨x, r, e, q⟩ => by
  refine ⟨x, r, e, ?_⟩
  have q2 := hu r (σ.set j (some x)) H Q q
  show u r (σ.set j (some x)) H _
  rw [wipe_set_mem σ h] at q2
  exact q2
theorem wp_tup {K : PySem.W.Frag} {n : Nat} {u : TGs} {vs : List Nat} (hu : WpsOk u vs) : WpOk (gTup K n u) vs := fun v σ H Q ⟨a, xs, e1, e2, e3, q⟩ => ⟨a, xs, e1, e2, e3, hu xs σ H Q q⟩
theorem Mem.lessZ {K : PySem.W.Frag} {F Z Z' H : Hp} {M : Ms} (h : Mem K F M Z' H) (s : ∀ a o, Z a = some o → Z' a = some o) : Mem K F M Z H := ⟨h.sub, h.chg, fun a o e => h.out a o (s a o e)⟩
theorem XR.moreZ {J : Jx} {F Z Z' : Hp} (x : XR J F Z) (s : ∀ a o, Z a = some o → Z' a = some o) : XR J F Z' := fun F' H' M' c od xs s' m q o => x F' H' M' c od xs s' (m.lessZ s) q o
section
variable {J : Jx} {Γ : Ga} {M : Ms} {wi : TI} {g : TG} {tt : TT} {te : TE} {P : Ent → Ms → Prop} {vs : List Nat}
theorem w_lc (hw : WpOk g vs) (h : WI J wi Γ M fun its G M1 => ∃ Iv : Nat → List PyData → Ms → Prop, its.length ≤ sizeLine ∧ Iv 0 [] M1 ∧ (∀ i ds M', i ≤ its.length → Iv i ds M' → G M') ∧
    (∀ i e ds M', its[i]? = some e → Iv i ds M' → GT J g e (wipeG Γ vs) M' fun Γ2 M2 => WT J tt Γ2 M2 fun b M3 => (b = true → Wx J te Γ2 M3 fun r M4 => ∃ d, r = .d d ∧ Iv (i + 1) (ds ++ [d]) M4) ∧ (b = false → Iv (i + 1) ds M3)) ∧
    (∀ ds M', ds.length ≤ its.length → Iv its.length ds M' → P (.d (.list ds)) M')) : Wx J (tLc wi g tt te vs) Γ M P := fun F Z σ H en m x Q q =>
  h F Z σ H en m x _ fun I F1 H1 M1 its G s1 m1 aw ⟨Iv, hz, h0, hG, hs, hd⟩ => fun Dl hD => by
    have nZ := (m1.zfree hD).1
    have x1 := x.mono s1
    have up : ∀ (o : HO) a u, Z a = some u → upd Z Dl o a = some u := fun o a u e => by
      rw [upd_ne (ne_of_none e nZ)]
      exact e
    refine ⟨fun i n H' => n = its.length - i ∧ i ≤ its.length ∧ ∃ F' ds ws M', Same F1 F' ∧ RpAll J.K F' ws ds ∧ Mem J.K F' M' (upd Z Dl (.lst ws)) H' ∧ ds.length ≤ i ∧ Iv i ds M', ⟨its.length, by simp, Nat.zero_le _, F1, [], [], M1, Same.refl F1, .nil, m1.newZ hD, Nat.le_refl _, h0⟩, ?_⟩
    rintro i n H' ⟨rfl, hi, F', ds, ws, M', s', rs, m', hl, iv⟩
    have g' := hG i ds M' hi iv
    have aw1 := aw (upd Z Dl (.lst ws)) (up _)
    by_cases hlt : i < its.length
    · refine .inr ⟨aw1.goes F' M' H' i s' m' g' hlt, fun H2 => ∃ F' ds ws M', Same F1 F' ∧ RpAll J.K F' ws ds ∧ Mem J.K F' M' (upd Z Dl (.lst ws)) H2 ∧ ds.length ≤ i + 1 ∧ Iv (i + 1) ds M', fun H2 q => ⟨its.length - (i + 1), by omega, rfl, hlt, q⟩, fun v H2 y => ?_⟩
      obtain ⟨F2, e, s2, m2, ei, r2⟩ := aw1.yields F' M' H' i v H2 s' m' g' hlt y
      have xz : XR J F2 (upd Z Dl (.lst ws)) := (x1.mono (s'.trans s2)).moreZ (up _)
      have eq1 : wipe (wipe σ vs) vs = wipe σ vs := wipe_wipe σ vs vs fun _ z => z
      have enw : EnvOk J.K F2 (wipe σ vs) (wipeG Γ vs) := (en.mono ((s1.trans s').trans s2)).wipe vs
      have main := hw v (wipe σ vs) H2 _ (hs i e ds M' ei iv F2 (upd Z Dl (.lst ws)) (wipe σ vs) H2 v enw m2 xz r2 (fun σ2 H2 => tt σ2 H2 fun b H3 => if b = true then te σ2 H3 fun y H4 => ∃ acc, H4 Dl = some (.lst acc) ∧ acc.length < sizeLine ∧
          (fun H2 => ∃ F' ds ws M', Same F1 F' ∧ RpAll J.K F' ws ds ∧ Mem J.K F' M' (upd Z Dl (.lst ws)) H2 ∧ ds.length ≤ i + 1 ∧ Iv (i + 1) ds M') (upd H4 Dl (.lst (acc ++ [y]))) else
          (fun H2 => ∃ F' ds ws M', Same F1 F' ∧ RpAll J.K F' ws ds ∧ Mem J.K F' M' (upd Z Dl (.lst ws)) H2 ∧ ds.length ≤ i + 1 ∧ Iv (i + 1) ds M') H3) fun F3 H3 σ3 Γ3 M3 s3 m3 e3 k => ?_)
      · rw [eq1] at main
        exact main
      · have x3 := xz.mono s3
        refine k F3 _ σ3 H3 e3 m3 x3 _ fun b F4 H4 M4 s4 m4 ⟨kt, kf⟩ => ?_
        have s14 := ((s'.trans s2).trans s3).trans s4
        cases b with
        | true =>
          show te σ3 H4 _
          refine kt rfl F4 _ σ3 H4 (e3.mono s4) m4 (x3.mono s4) _ fun v F5 H5 e5 M5 s5 m5 r5 ⟨d, ed, iv'⟩ => ?_
          subst ed
          have hD5 := (m5.out Dl _ upd_same).1
          refine ⟨ws, hD5, by rw [rs.length]; omega, F5, ds ++ [d], ws ++ [v], M5, s14.trans s5, (rs.mono (((s2.trans s3).trans s4).trans s5)).append (.cons r5 .nil), ?_, by rw [List.length_append, List.length_singleton]; omega, iv'⟩
          have m6 := m5.writeZ (o := .lst (ws ++ [v])) (upd_same (H := Z) (a := Dl) (o := .lst ws))
          rw [upd_upd] at m6
          exact m6
        | false =>
          exact ⟨F4, ds, ws, M4, s14, rs.mono ((s2.trans s3).trans s4), m4, by omega, kf rfl⟩
    · have e : i = its.length := by omega
      subst e
      refine .inl ⟨aw1.stops F' M' H' s' m' g', ?_⟩
      obtain ⟨s2, m2⟩ := m'.giveZ nZ
      exact q _ _ H' (.d (.list ds)) M' ((s1.trans s').trans s2) m2 (Rp.lst upd_same (rs.mono s2)) (hd ds M' hl iv)
theorem wt_yes {B : Bool → Ms → Prop} (p : B true M) : WT J tYes Γ M B := fun F Z σ H en m x Q q => q true F H M (Same.refl F) m p
end
/-! ## stores into a list that may change -/
section
variable {J : Jx} {Γ : Ga} {M : Ms} {P : Ga → Ms → Prop} {to ti : TE} {e : Ent}
theorem paired_setE {K : PySem.W.Frag} {F : Hp} {vs : List V} {es : List Ent} {v : V} {e : Ent} (r : REs K F vs es) (q : RE K F v e) (j : Nat) : REs K F (vs.set j v) (es.set j e) := paired_set (R := RE K F) q j r
theorem g_sub (h : Wx J to Γ M fun o M1 => Wx J ti Γ M1 fun i M2 => ∃ a es k j, o = .r a ∧ i = .d (.int k) ∧ M2 a = some (.lst es) ∧ ixN es.length k = some j ∧ P Γ (um M2 a (.lst (es.set j e)))) : GT J (gSub to ti rSetL) e Γ M P := fun F Z σ H v en m x r Q q =>
  h F Z σ H en m x _ fun o F1 H1 eo M1 s1 m1 r1 h1 => h1 F1 Z σ H1 (en.mono s1) m1 (x.mono s1) _ fun i F2 H2 ei M2 s2 m2 r2 ⟨a, es, k, j, e1, e2, hm, hj, p⟩ => by
    subst e1
    subst e2
    cases r1
    cases r2
    obtain ⟨vs, ea, rs⟩ := m2.list hm
    refine ⟨a, vs, k, j, rfl, rfl, ea, by rw [rs.length]; exact hj, ?_⟩
    exact q F2 _ σ Γ _ (s1.trans s2) (m2.write (o := .lst (vs.set j v)) (m := .lst (es.set j e)) hm (paired_setE rs (r.mono (s1.trans s2)) j)) (en.mono (s1.trans s2)) p
end
end Z
set_option Elab.async false
set_option linter.all false
set_option maxRecDepth 100000
set_option maxHeartbeats 4000000
namespace Z
open PySem PySem.Spec L2
/-! ## calls -/
/-- the values at these places -/
def perm {α : Type} (ix : List Nat) (l : List α) : List α := ix.filterMap (l[·]?)
theorem perm_paired {α β : Type} {R : α → β → Prop} {xs : List α} {ys : List β} (h : Paired R xs ys) : ∀ ix : List Nat, Paired R (perm ix xs) (perm ix ys)
  | [] => .nil
  | i :: ix => by
    unfold perm
    rw [List.filterMap_cons, List.filterMap_cons]
    cases e : ys[i]? with
    | none =>
      have hx : xs[i]? = none := by
        have l := Paired.length h
        rw [List.getElem?_eq_none_iff] at e ⊢
        omega
      rw [hx]
      exact perm_paired h ix
    | some y =>
      obtain ⟨x, e1, r⟩ := paired_get h e
      rw [e1]
      exact .cons r (perm_paired h ix)
theorem kbn0 {K : PySem.W.Frag} {x qual : Str} {params : Arguments} {body : List Stmt} {scope : Scope} {kws : List (Str × V)} {f : Addr} {fd : FuncData} {ps : List Str} (F : FunD K x qual params body scope [] kws f fd) (n : Nat) (ks : List Str) (ix : List Nat)
    (h : ∀ (kV doc pm : Value) (an : Option Addr) (cdv ct : Value) (us ws : List Value), us.length = n → ws.length = ks.length → bindArgs (PySem.W.fnOf x qual params body scope .none kV doc pm an cdv ct) ⟨us, ks.zip ws⟩ = pure (ps.zip (perm ix (us ++ ws)))) :
    KBn K fd ps n ks (fun us ws => perm ix (us ++ ws)) (fun vs zs => perm ix (vs ++ zs)) := by
  obtain ⟨oc, od, dV, kV, doc, pm, an, cdv, ct, osl, rfl, lk, hcd, hD, hK⟩ := F.ex
  rcases hD with ⟨_, rfl⟩ | ⟨e, _⟩
  · exact ⟨fun s us ws _ l1 l2 => .of_eq (h kV doc pm an cdv ct us ws l1 l2), fun r1 r2 => perm_paired (r1.append r2) ix⟩
  · exact absurd rfl e
section
variable {X : Cx} {CX : CXT} {k n : Nat} {f : Addr} {fd : FuncData} {ps ks : List Str} {sp : Sp} {E : XK} {x : Str} {p pos : Pos} {e : Expr} {es : List Expr} {kws : List Keyword} {t tk : TA} {g : List Value → List Value → List Value} {gV : List V → List V → List V}
/-- f(k = v, ..) -/
theorem pe_callN0 (F : FnOk X.prog X.w X.K X.mg X.base CX k f fd ps sp) (hr : Room k X.A) (hg : Gl X x) (hm : X.mg x = some (.ref f)) (hk : PySem.W.keepIn X.K (.ref f) = true) (hb : KBn X.K fd ps 0 ks g gV) (hx : Passes CX X E)
    (hkw : PK X kws tk) (hall : (backToKw pos (keywordEach kws X.env)).all (·.1.isSome) = true := by rfl) (hks : (backToKw pos (keywordEach kws X.env)).filterMap (·.1) = ks := by rfl)
    (hdb : (x == ("__debug__" : Str)) = false := by decide) (hpl : ((backTo pos (starEach [] X.env)).any (·.1) || (backToKw pos (keywordEach kws X.env)).any (·.1.isNone)) = false := by rfl) :
    PE X (.Call (.Name x p) [] kws pos) (tCallN 0 ks.length sp gV E tNil tk) := by
  refine ⟨fun pins s σ H Q I h => ?_⟩
  refine wpAny_Call_Name_kw (ld_glob I hg hm ?_ hdb)
  refine PySem.W.callWith_KW0 (h₀ := X.base) I.ok.mod.kin hk hall ?_ hpl
  refine thn (hkw.run pos pins s σ H _ I h) fun ws s2 ⟨zs, H2, I2, rz, l1, l2, q2⟩ => ⟨I2.kIn, ?_⟩
  rw [hks]
  exact run_fnN (us := []) (vs := []) F hr hb hx I2 .nil rz rfl l2 q2
end
/-- a def of the module by its name -/
structure Ca (P : Program) (w : World) (K : PySem.W.Frag) (mg : Str → Option Value) (base : Heap) (x : Str) (st : Stmt) (k : Nat) (ps : List Str) (c : ASp) : Prop where
  ex : ∃ (f : Addr) (fd : FuncData), FnOk P w K mg base CX0 k f fd ps (spA K c) ∧ mg x = some (.ref f) ∧ FunD K x x (defArgs st) (defBody st) (defScope st) [] [] f fd ∧ Binds K fd ps []
section
variable {X : Cx} {k j : Nat} {ps : List Str} {c : ASp} {x : Str} {st : Stmt} {p pos : Pos} {e : Expr} {es : List Expr} {kws : List Keyword} {t tk : TA}
theorem pe_ca (C : Ca X.prog X.w X.K X.mg X.base x st k ps c) (hr : Room j X.A) (hk : k ≤ j) (hg : Gl X x) (ha : PA X (e :: es) t)
    (hdb : (x == ("__debug__" : Str)) = false := by decide) (he : starEach (e :: es) X.env = (false, eval e X.env) :: starEach es X.env := by rfl) (hpl : (backTo pos (starEach es X.env)).any (·.1) = false := by rfl) :
    PE X (.Call (.Name x p) (e :: es) [] pos) (tCall (spA X.K c) [] E0 t) := by
  obtain ⟨f, fd, F, hm, fu, b⟩ := C.ex
  exact pe_call F (hr.mono hk) hg hm fu.kp b .nil pass0 ha hdb he hpl
theorem pe_ca0 (C : Ca X.prog X.w X.K X.mg X.base x st k ps c) (hr : Room j X.A) (hk : k ≤ j) (hg : Gl X x)
    (hdb : (x == ("__debug__" : Str)) = false := by decide) : PE X (.Call (.Name x p) [] [] pos) (tCall (spA X.K c) [] E0 tNil) := by
  obtain ⟨f, fd, F, hm, fu, b⟩ := C.ex
  exact pe_call0 F (hr.mono hk) hg hm fu.kp b .nil pass0 hdb
/-- with keywords: n places, then ks; ix: where each parameter's value is found -/
theorem pe_caK (C : Ca X.prog X.w X.K X.mg X.base x st k ps c) (n : Nat) (ks : List Str) (ix : List Nat) (hr : Room j X.A) (hk : k ≤ j) (hg : Gl X x)
    (hb : ∀ (kV doc pm : Value) (an : Option Addr) (cdv ct : Value) (us ws : List Value), us.length = n → ws.length = ks.length → bindArgs (PySem.W.fnOf x x (defArgs st) (defBody st) (defScope st) .none kV doc pm an cdv ct) ⟨us, ks.zip ws⟩ = pure (ps.zip (perm ix (us ++ ws))))
    (ha : PA X (e :: es) t) (hkw : PK X kws tk) (hall : (backToKw pos (keywordEach kws X.env)).all (·.1.isSome) = true := by rfl) (hks : (backToKw pos (keywordEach kws X.env)).filterMap (·.1) = ks := by rfl)
    (hdb : (x == ("__debug__" : Str)) = false := by decide) (he : starEach (e :: es) X.env = (false, eval e X.env) :: starEach es X.env := by rfl)
    (hpl : ((backTo pos (starEach (e :: es) X.env)).any (·.1) || (backToKw pos (keywordEach kws X.env)).any (·.1.isNone)) = false := by rfl) :
    PE X (.Call (.Name x p) (e :: es) kws pos) (tCallN n ks.length (spA X.K c) (fun vs zs => perm ix (vs ++ zs)) E0 t tk) := by
  obtain ⟨f, fd, F, hm, fu, b⟩ := C.ex
  exact pe_callN F (hr.mono hk) hg hm fu.kp (kbn0 fu n ks ix hb) pass0 ha hkw hall hks hdb he hpl
theorem pe_caK0 (C : Ca X.prog X.w X.K X.mg X.base x st k ps c) (ks : List Str) (ix : List Nat) (hr : Room j X.A) (hk : k ≤ j) (hg : Gl X x)
    (hb : ∀ (kV doc pm : Value) (an : Option Addr) (cdv ct : Value) (us ws : List Value), us.length = 0 → ws.length = ks.length → bindArgs (PySem.W.fnOf x x (defArgs st) (defBody st) (defScope st) .none kV doc pm an cdv ct) ⟨us, ks.zip ws⟩ = pure (ps.zip (perm ix (us ++ ws))))
    (hkw : PK X kws tk) (hall : (backToKw pos (keywordEach kws X.env)).all (·.1.isSome) = true := by rfl) (hks : (backToKw pos (keywordEach kws X.env)).filterMap (·.1) = ks := by rfl)
    (hdb : (x == ("__debug__" : Str)) = false := by decide) (hpl : ((backTo pos (starEach [] X.env)).any (·.1) || (backToKw pos (keywordEach kws X.env)).any (·.1.isNone)) = false := by rfl) :
    PE X (.Call (.Name x p) [] kws pos) (tCallN 0 ks.length (spA X.K c) (fun vs zs => perm ix (vs ++ zs)) E0 tNil tk) := by
  obtain ⟨f, fd, F, hm, fu, b⟩ := C.ex
  exact pe_callN0 F (hr.mono hk) hg hm fu.kp (kbn0 fu 0 ks ix hb) pass0 hkw hall hks hdb hpl
end
section
variable {J : Jx} {Γ : Ga} {M : Ms} {P : Ent → Ms → Prop} {t tk : TA}
theorem REs.append {K : PySem.W.Frag} {F : Hp} {vs ws : List V} {es fs : List Ent} (h : REs K F vs es) (g : REs K F ws fs) : REs K F (vs ++ ws) (es ++ fs) := paired_append h g
theorem w_callN {c : ASp} {n m : Nat} {ix : List Nat} (h : WA J t Γ M fun es M1 => WA J tk Γ M1 fun zs M2 => es.length = n ∧ zs.length = m ∧ c (perm ix (es ++ zs)) M2 P X0) : Wx J (tCallN n m (spA J.K c) (fun vs zs => perm ix (vs ++ zs)) E0 t tk) Γ M P := fun F Z σ H en mm x Q q =>
  h F Z σ H en mm x _ fun vs F1 H1 es M1 s1 m1 r1 h1 => h1 F1 Z σ H1 (en.mono s1) m1 (x.mono s1) _ fun zs F2 H2 fs M2 s2 m2 r2 ⟨l1, l2, h2⟩ =>
    ⟨r1.length.trans l1, r2.length.trans l2, F2, Z, M2, perm ix (es ++ fs), P, X0, perm_paired ((r1.mono s2).append r2) ix, m2, h2, fun v F' H' e M' s m' r p => q v F' H' e M' ((s1.trans s2).trans s) m' r p, fun _ _ _ _ _ _ _ _ z _ => z.elim⟩
theorem w_call {c : ASp} (h : WA J t Γ M fun es M1 => c es M1 P X0) : Wx J (tCall (spA J.K c) [] E0 t) Γ M P := w_call0 (des := []) (fun _ => .nil) fun F Z σ H en m x Q q => h F Z σ H en m x Q fun vs F' H' es M' s m' r p => q vs F' H' es M' s m' r (by show c (es ++ []) M' P X0; rw [List.append_nil]; exact p)
end
/-! ## what the top has left -/
structure Top (fa : List He.Fa) (fn : List He.DefD) (K : PySem.W.Frag) (mg : Str → Option Value) : Prop where
  ex : ∃ h : Heap, K.In h ∧ h.Ns mainGlobals mg ∧ He.SaysD fa fn K
/-- a def of the module without defaults -/
def dd (x : Str) (st : Stmt) : He.DefD := ⟨(x, none), x, x, defArgs st, defBody st, defScope st, [], []⟩
section
variable {fa : List He.Fa} {fn : List He.DefD} {K : PySem.W.Frag} {mg : Str → Option Value}
theorem Top.fun_ (T : Top fa fn K mg) (i : Nat) {d : He.DefD} (h : fn[i]? = some d) : ∃ fd, FunD K d.name d.qual d.params d.body d.scope (d.dvs K) (d.kws K) (He.fAd K d.at_) fd := by
  obtain ⟨_, _, _, c⟩ := T.ex
  exact c.def_ i h
theorem Top.glo (T : Top fa fn K mg) (i : Nat) {x : Str} (h : fa[i]? = some (.glo x)) : mg x = some (.ref (He.ga K x)) := by
  obtain ⟨_, X, G, c⟩ := T.ex
  exact He.glo_ok X G (c.fact i h)
theorem Top.free (T : Top fa fn K mg) (i : Nat) {x : Str} (h : fa[i]? = some (.free x)) : mg x = none := by
  obtain ⟨_, X, G, c⟩ := T.ex
  exact He.free_ok X G (c.fact i h)
theorem Top.str (T : Top fa fn K mg) (i : Nat) {x z : Str} (h : fa[i]? = some (.str x z)) : ∃ u, mg x = some u ∧ RelV (.str z) u := by
  obtain ⟨_, X, G, c⟩ := T.ex
  obtain ⟨t, e⟩ := He.str_ok X G (c.fact i h)
  exact ⟨_, e, t, rfl⟩
theorem Top.int (T : Top fa fn K mg) (i : Nat) {x : Str} {z : Int} (h : fa[i]? = some (.int x z)) : ∃ u, mg x = some u ∧ RelV (.int z) u := by
  obtain ⟨_, X, G, c⟩ := T.ex
  obtain ⟨t, e⟩ := He.int_ok X G (c.fact i h)
  exact ⟨_, e, t, rfl⟩
variable {P : Program} {w : World} {base : Heap}
theorem ca_of {x : Str} {st : Stmt} {k : Nat} {ps : List Str} {c : ASp} (T : Top fa fn K mg) (i j : Nat) (hi : fn[i]? = some (dd x st)) (hj : fa[j]? = some (.glo x))
    (hb : ∀ (kV doc pm : Value) (an : Option Addr) (cdv ct : Value) (us : List Value), us.length = ps.length → bindArgs (PySem.W.fnOf x x (defArgs st) (defBody st) (defScope st) .none kV doc pm an cdv ct) ⟨us, []⟩ = pure (ps.zip us))
    (ok : ∀ fd, FunD K x x (defArgs st) (defBody st) (defScope st) [] [] (He.ga K x) fd → FnOk P w K mg base CX0 k (He.ga K x) fd ps (spA K c)) : Ca P w K mg base x st k ps c := by
  obtain ⟨fd, F⟩ := T.fun_ i hi
  have F' : FunD K x x (defArgs st) (defBody st) (defScope st) [] [] (He.ga K x) fd := F
  exact ⟨He.ga K x, fd, ok fd F', T.glo j hj, F', F'.bindsN hb⟩
end
/-- the law's call -/
theorem law_in {K : PySem.W.Frag} {H : Hp} {a : Addr} {ns : List Int} {c : ASp} {Q : VK} {E : XK} (hS : SqL K H a (ns.map V.int)) (hQ : ∀ H', Q (.bl true) H')
    (hc : ∀ Qa X, (∀ M', Qa (.d (.bool true)) M') → c [.w (ns.map PyData.int)] (fun _ => none) Qa X) : spA K c [.ref a] H Q E := by
  refine ⟨H, fun _ => none, fun _ => none, [.w (ns.map PyData.int)], fun e M => e = .d (.bool true), X0, .cons ⟨a, _, rfl, hS, RpAll.ofInts ns⟩ .nil, ⟨Same.refl H, fun _ _ z => (nomatch z), fun _ _ z => (nomatch z)⟩, hc _ _ (fun _ => rfl), ?_, fun _ _ _ _ _ _ _ _ z _ => z.elim⟩
  intro v F' H' e M' s m r he
  subst he
  cases r
  exact hQ H'
end Z
set_option Elab.async false
set_option linter.all false
set_option maxRecDepth 100000
set_option maxHeartbeats 4000000
namespace Z
open PySem PySem.Spec L2
section
variable {X : Cx}
def rMulS : R2 := fun x y H Q => ∃ i n, x = .str i ∧ y = .int n ∧ MulOk i n ∧ Q (.str (Txt.mul i n)) H
theorem op_mul_str : OpR X (binaryOp .Mult) rMulS := by
  intro pins s σ H x y v u Q I rx ry h
  obtain ⟨i, n, rfl, rfl, hk, q⟩ := h
  obtain ⟨t, rfl⟩ := rx
  obtain ⟨t2, rfl⟩ := ry
  exact PySem.SB.mul hk fun t' k => ⟨.str _, H, I.tok _, ⟨_, rfl⟩, q⟩
abbrev rMulI : R2 := rI CMul fun i j => .int (i * j)
abbrev rMulU : R2 := rOr rMulI rMulS
theorem op_mulU : OpR X (binaryOp .Mult) rMulU := op_or2 op_mul op_mul_str
abbrev rIsiU (K : PySem.W.Frag) : List V → Hp → VK → Prop := rOrN (rIsi K) (rIsiT K)
theorem call_isiU : CallR X (.builtin "isinstance") (rIsiU X.K) := call_or call_isi call_isiT
end
section
variable {J : Jx} {Γ : Ga} {M : Ms} {P : Ent → Ms → Prop}
theorem o_mulI {i j : Int} (hc : CMul i j) (p : P (.d (.int (i * j))) M) : O2 J rMulU (.d (.int i)) (.d (.int j)) M P := o_l (o_mul hc p)
theorem mul_small {s : Str} {n : Int} (h : s.length ≤ 1000) (h0 : -1000 ≤ n) (h1 : n ≤ 1000) : MulOk s n := by
  have e : (2 : Int) ^ 63 = 9223372036854775808 := by decide
  refine ⟨?_, ?_, ?_⟩
  · rw [Bool.or_eq_false_iff]
    constructor
    · rw [decide_eq_false_iff_not, e]
      omega
    · rw [decide_eq_false_iff_not, e]
      omega
  · intro h2 _
    rw [e]
    have h3 : (1000 : Int) ≤ (9223372036854775808 - 1) / n := Int.le_ediv_of_mul_le (by omega) (by omega)
    omega
  · intro _ _
    have e2 : sizeLine = 16777216 := rfl
    have h4 : s.length * n.toNat ≤ 1000 * 1000 := Nat.mul_le_mul h (by omega)
    show decide (s.length * n.toNat > sizeLine) = false
    rw [decide_eq_false_iff_not, e2]
    omega
theorem o_mulS {s : Str} {n : Int} (hc : MulOk s n) (p : P (.d (.str (Txt.mul s n))) M) : O2 J rMulU (.d (.str s)) (.d (.int n)) M P := o_r fun F Z H v u m xr r1 r2 Q q => by
  cases r1
  cases r2
  exact ⟨s, n, rfl, rfl, hc, q _ F H (.d (.str _)) M (Same.refl F) m (Rp.str _) p⟩
/-! isinstance with built-in types -/
def tyN : PyData → String
  | .none => "NoneType"
  | .bool _ => "bool"
  | .int _ => "int"
  | .str _ => "str"
  | .list _ => "list"
  | .tuple _ => "tuple"
  | .dict _ => "object"
def isB : PyData → String → Bool
  | .bool _, "int" => true
  | d, n => decide (tyN d = n)
theorem tyX_of {K : PySem.W.Frag} {F Z H : Hp} {v : V} {d : PyData} (m : Mem K F M Z H) (r : Rp K F v d) (hd : noObj d = true) : TyX K H v (.type (tyN d)) := by
  cases r with
  | non => exact .base .non
  | bl b => exact .base (.bl b)
  | int b => exact .base (.int b)
  | str b => exact .base (.str b)
  | lst e _ => exact .base (.lst (m.sub _ _ e))
  | tup e _ =>
    rcases e with (e | ⟨o, e⟩) | ⟨o, its, n, e, c, _⟩
    · exact .base (.tup (m.sub _ _ e))
    · exact .fTuple (m.sub _ _ e)
    · exact .kTuple e c
  | obj _ _ => exact absurd hd Bool.false_ne_true
theorem kit_isB {K : PySem.W.Frag} (d : PyData) (hd : noObj d = true) : (PySem.W.kitOne K (.type (tyN d)) (.type "int") = some (isB d "int") ∧ PySem.W.kitOne K (.type (tyN d)) (.type "bool") = some (isB d "bool") ∧ PySem.W.kitOne K (.type (tyN d)) (.type "str") = some (isB d "str") ∧
    PySem.W.kitOne K (.type (tyN d)) (.type "list") = some (isB d "list")) ∧ PySem.W.kitOne K (.type (tyN d)) (.type "tuple") = some (isB d "tuple") := by
  cases d with
  | dict _ => exact absurd hd Bool.false_ne_true
  | none => exact ⟨⟨kit_ty (by decide +kernel), kit_ty (by decide +kernel), kit_ty (by decide +kernel), kit_ty (by decide +kernel)⟩, kit_ty (by decide +kernel)⟩
  | bool _ => exact ⟨⟨kit_ty (a := "bool") (r := true) (by decide +kernel), kit_ty (a := "bool") (r := true) (by decide +kernel), kit_ty (a := "bool") (r := false) (by decide +kernel), kit_ty (a := "bool") (r := false) (by decide +kernel)⟩, kit_ty (a := "bool") (r := false) (by decide +kernel)⟩
  | int _ => exact ⟨⟨kit_ty (a := "int") (r := true) (by decide +kernel), kit_ty (a := "int") (r := false) (by decide +kernel), kit_ty (a := "int") (r := false) (by decide +kernel), kit_ty (a := "int") (r := false) (by decide +kernel)⟩, kit_ty (a := "int") (r := false) (by decide +kernel)⟩
  | str _ => exact ⟨⟨kit_ty (a := "str") (r := false) (by decide +kernel), kit_ty (a := "str") (r := false) (by decide +kernel), kit_ty (a := "str") (r := true) (by decide +kernel), kit_ty (a := "str") (r := false) (by decide +kernel)⟩, kit_ty (a := "str") (r := false) (by decide +kernel)⟩
  | list _ => exact ⟨⟨kit_ty (a := "list") (r := false) (by decide +kernel), kit_ty (a := "list") (r := false) (by decide +kernel), kit_ty (a := "list") (r := false) (by decide +kernel), kit_ty (a := "list") (r := true) (by decide +kernel)⟩, kit_ty (a := "list") (r := false) (by decide +kernel)⟩
  | tuple _ => exact ⟨⟨kit_ty (a := "tuple") (r := false) (by decide +kernel), kit_ty (a := "tuple") (r := false) (by decide +kernel), kit_ty (a := "tuple") (r := false) (by decide +kernel), kit_ty (a := "tuple") (r := false) (by decide +kernel)⟩, kit_ty (a := "tuple") (r := true) (by decide +kernel)⟩
theorem n_isi {d : PyData} {n : String} {b : Bool} (hd : noObj d = true) (hn : n = "int" ∨ n = "bool" ∨ n = "str" ∨ n = "list" ∨ n = "tuple") (he : isB d n = b) (p : P (.d (.bool b)) M) : ON J (rIsiU J.K) [.d d, .t n] M P := n_l fun F Z H vs m xr r1 Q q => by
  cases r1 with
  | cons r0 rt =>
    cases rt with
    | cons r2 rt =>
      cases rt
      cases r2
      have k := kit_isB (K := J.K) d hd
      have kk : PySem.W.kitOne J.K (.type (tyN d)) (.type n) = some (isB d n) := by
        rcases hn with h | h | h | h | h <;> subst h
        · exact k.1.1
        · exact k.1.2.1
        · exact k.1.2.2.1
        · exact k.1.2.2.2
        · exact k.2
      rw [he] at kk
      exact ⟨_, _, _, _, _, rfl, .ty n, tyX_of m r0 hd, kk, q _ F H (.d (.bool _)) M (Same.refl F) m (Rp.bl _) p⟩
end
/-! ## rules with the written part told -/
section
variable {X : Cx} {K : PySem.W.Frag} {a b c e o : Expr} {ta tb tc te to : TE} {es rest : List Expr} {t : TA} {pos apos cpos : Pos} {tg l : Expr}
theorem kAdd (h : X.K = K) : OpR X (binaryOp .Add) (rAddU K) := h ▸ op_addU
theorem kEq (h : X.K = K) (hu : X.A.units + 64 < cLine) : OpR X (compareOp .Eq) (rEqU K) := h ▸ op_eqU hu
theorem kNe (h : X.K = K) (hu : X.A.units + 64 < cLine) : OpR X (compareOp .NotEq) (rNeU K) := h ▸ op_neU hu
theorem kIn (h : X.K = K) : OpR X (compareOp .In) (rInU K) := h ▸ op_inU
theorem kNotIn (h : X.K = K) : OpR X (compareOp .NotIn) (rNotInU K) := h ▸ op_notInU
theorem kIx (h : X.K = K) : IxR X (rIx K) := h ▸ ix_seq
theorem kSl (h : X.K = K) : SlR X (rSlU K) := h ▸ sl_U
theorem kLen (h : X.K = K) : CallR X (.builtin "len") (rLenU K) := h ▸ call_len
theorem kSum (h : X.K = K) (hc : X.calm = true) : CallR X (.builtin "sum") (rSum K) := h ▸ cr_sum hc
theorem kAll (h : X.K = K) (hc : X.calm = true) : CallR X (.builtin "all") (rAll K) := h ▸ cr_all hc
theorem kAny (h : X.K = K) (hc : X.calm = true) : CallR X (.builtin "any") (rAny K) := h ▸ cr_any hc
theorem kList (h : X.K = K) : CallR X (.type "list") (rListU K) := h ▸ call_list_of
theorem kIsi (h : X.K = K) : CallR X (.builtin "isinstance") (rIsiU K) := h ▸ call_isiU
abbrev rJoin (K : PySem.W.Frag) : V → List V → Hp → VK → Prop := fun x xs H Q => ∃ a p, ∃ ys : List Str, x = .str a ∧ xs = [.ref p] ∧ (SqL K H p (ys.map V.str) ∨ SqT K H p (ys.map V.str)) ∧ (ys.map (·.length)).sum + ys.length * a.length ≤ 16777216 ∧ Q (.str (Txt.join a ys)) H
theorem kJoin (h : X.K = K) : MtR X "str.join" (rJoin K) := h ▸ mt_join
theorem ke_and (h : X.K = K) (ha : PE X a ta) (hb : PE X (.BoolOp .And (b :: rest) pos) tb) : PE X (.BoolOp .And (a :: b :: rest) pos) (tAndT K ta tb) := h ▸ pe_andT ha hb
theorem ke_or (h : X.K = K) (ha : PE X a ta) (hb : PE X (.BoolOp .Or (b :: rest) pos) tb) : PE X (.BoolOp .Or (a :: b :: rest) pos) (tOrT K ta tb) := h ▸ pe_orT ha hb
theorem ke_not (h : X.K = K) (ha : PE X a ta) : PE X (.UnaryOp .Not a pos) (tNotT K ta) := h ▸ pe_notT ha
theorem kt_tru (h : X.K = K) (ha : PE X a ta) (he : ∀ whole, isTrue a X.env whole = (do let v ← whole; standAt a.pos; holding [v] (truthy v))) : PT X a (tTru K ta) := h ▸ pt_truth ha he
variable {k j : Nat} {ps : List Str} {c : ASp} {x : Str} {st : Stmt} {p : Pos} {kws : List Keyword} {tk : TA}
theorem ke_ca (h : X.K = K) (C : Ca X.prog X.w K X.mg X.base x st k ps c) (hr : Room j X.A) (hk : k ≤ j) (hg : Gl X x) (ha : PA X (e :: es) t)
    (hdb : (x == ("__debug__" : Str)) = false := by decide) (he : starEach (e :: es) X.env = (false, eval e X.env) :: starEach es X.env := by rfl) (hpl : (backTo pos (starEach es X.env)).any (·.1) = false := by rfl) :
    PE X (.Call (.Name x p) (e :: es) [] pos) (tCall (spA K c) [] E0 t) := by
  subst h
  exact pe_ca C hr hk hg ha hdb he hpl
theorem ke_ca0 (h : X.K = K) (C : Ca X.prog X.w K X.mg X.base x st k ps c) (hr : Room j X.A) (hk : k ≤ j) (hg : Gl X x)
    (hdb : (x == ("__debug__" : Str)) = false := by decide) : PE X (.Call (.Name x p) [] [] pos) (tCall (spA K c) [] E0 tNil) := by
  subst h
  exact pe_ca0 C hr hk hg hdb
theorem ke_caK (h : X.K = K) (C : Ca X.prog X.w K X.mg X.base x st k ps c) (n : Nat) (ks : List Str) (ix : List Nat) (hr : Room j X.A) (hk : k ≤ j) (hg : Gl X x)
    (hb : ∀ (kV doc pm : Value) (an : Option Addr) (cdv ct : Value) (us ws : List Value), us.length = n → ws.length = ks.length → bindArgs (PySem.W.fnOf x x (defArgs st) (defBody st) (defScope st) .none kV doc pm an cdv ct) ⟨us, ks.zip ws⟩ = pure (ps.zip (perm ix (us ++ ws))))
    (ha : PA X (e :: es) t) (hkw : PK X kws tk) (hall : (backToKw pos (keywordEach kws X.env)).all (·.1.isSome) = true := by rfl) (hks : (backToKw pos (keywordEach kws X.env)).filterMap (·.1) = ks := by rfl)
    (hdb : (x == ("__debug__" : Str)) = false := by decide) (he : starEach (e :: es) X.env = (false, eval e X.env) :: starEach es X.env := by rfl)
    (hpl : ((backTo pos (starEach (e :: es) X.env)).any (·.1) || (backToKw pos (keywordEach kws X.env)).any (·.1.isNone)) = false := by rfl) :
    PE X (.Call (.Name x p) (e :: es) kws pos) (tCallN n ks.length (spA K c) (fun vs zs => perm ix (vs ++ zs)) E0 t tk) := by
  subst h
  exact pe_caK C n ks ix hr hk hg hb ha hkw hall hks hdb he hpl
theorem ke_caK0 (h : X.K = K) (C : Ca X.prog X.w K X.mg X.base x st k ps c) (ks : List Str) (ix : List Nat) (hr : Room j X.A) (hk : k ≤ j) (hg : Gl X x)
    (hb : ∀ (kV doc pm : Value) (an : Option Addr) (cdv ct : Value) (us ws : List Value), us.length = 0 → ws.length = ks.length → bindArgs (PySem.W.fnOf x x (defArgs st) (defBody st) (defScope st) .none kV doc pm an cdv ct) ⟨us, ks.zip ws⟩ = pure (ps.zip (perm ix (us ++ ws))))
    (hkw : PK X kws tk) (hall : (backToKw pos (keywordEach kws X.env)).all (·.1.isSome) = true := by rfl) (hks : (backToKw pos (keywordEach kws X.env)).filterMap (·.1) = ks := by rfl)
    (hdb : (x == ("__debug__" : Str)) = false := by decide) (hpl : ((backTo pos (starEach [] X.env)).any (·.1) || (backToKw pos (keywordEach kws X.env)).any (·.1.isNone)) = false := by rfl) :
    PE X (.Call (.Name x p) [] kws pos) (tCallN 0 ks.length (spA K c) (fun vs zs => perm ix (vs ++ zs)) E0 tNil tk) := by
  subst h
  exact pe_caK0 C ks ix hr hk hg hb hkw hall hks hdb hpl
theorem ki_list (h : X.K = K) (hl : PE X l ta) : PI X tg l (iList K ta) := h ▸ pi_list hl
theorem ki_tup (h : X.K = K) (hl : PE X l ta) : PI X tg l (iTup K ta) := h ▸ pi_tup hl
end
/-! ## the law's def -/
theorem law_binds {K : PySem.W.Frag} {x : Str} {st : Stmt} {f : Addr} {fd : FuncData} {p : Str} (F : FunD K x x (defArgs st) (defBody st) (defScope st) [] [] f fd)
    (hb : ∀ (kV doc pm : Value) (an : Option Addr) (cdv ct : Value) (us : List Value), us.length = [p].length → bindArgs (PySem.W.fnOf x x (defArgs st) (defBody st) (defScope st) .none kV doc pm an cdv ct) ⟨us, []⟩ = pure ([p].zip us)) (s : Shared) (v : Value) : BindsTo s fd ⟨[v], []⟩ [(p, v)] :=
  F.bindsA hb s [v] rfl
theorem funD_eq {K : PySem.W.Frag} {x y qual qual' : Str} {pa pa' : Arguments} {b b' : List Stmt} {sc sc' : Scope} {d d' : List V} {k k' : List (Str × V)} {f : Addr} {fd fd' : FuncData} (F : FunD K x qual pa b sc d k f fd) (F' : FunD K y qual' pa' b' sc' d' k' f fd') : fd = fd' := by
  obtain ⟨oc, od, dV, kV, doc, pm, an, cdv, ct, osl, _, lk, _⟩ := F.ex
  obtain ⟨oc', od', dV', kV', doc', pm', an', cdv', ct', osl', _, lk', _⟩ := F'.ex
  rw [lk] at lk'
  have e := Option.some.inj lk'
  injection e with _ _ e3 _
  injection e3
theorem law_fn {P : Program} {w : World} {K : PySem.W.Frag} {mg : Str → Option Value} {h : Heap} {fa : Addr} {fl : List He.Fa} {fn : List He.DefD} {st : Stmt} {k : Nat} {x : Str} {c : ASp} (KX : K.In h) (G : h.Ns mainGlobals mg) (hmg : mg ("law" : Str) = some (.ref fa)) (T : ∃ h : Heap, K.In h ∧ h.Ns mainGlobals mg ∧ He.SaysD fl fn K)
    (hc : ∀ base : Heap, Top fl fn K mg → Ca P w K mg base "law" st k [x] c) (hb : ∀ (s : Shared) (v : Value) (fd : FuncData), FunD K "law" "law" (defArgs st) (defBody st) (defScope st) [] [] fa fd → BindsTo s fd ⟨[v], []⟩ [(x, v)]) :
    ∃ fd : FuncData, (∀ (s : Shared) (u : Value), BindsTo s fd ⟨[u], []⟩ [(x, u)]) ∧ ∀ base : Heap, K.In base → base.Ns mainGlobals mg → FnOk P w K mg base CX0 k fa fd [x] (spA K c) := by
  obtain ⟨f, fd, F, hm, fu, b⟩ := (hc h ⟨T⟩).ex
  rw [hmg] at hm
  cases hm
  refine ⟨fd, fun s v => hb s v fd fu, fun base _ _ => ?_⟩
  obtain ⟨f', fd', F', hm', fu', b'⟩ := (hc base ⟨T⟩).ex
  rw [hmg] at hm'
  cases hm'
  rw [funD_eq fu fu']
  exact F'
theorem cx_K {CX : CXT} {P : Program} {w : World} {K : PySem.W.Frag} {mg : Str → Option Value} {base : Heap} {N : List Str} {qual : Str} {scope : Scope} {f : Addr} {cd : Value} {A : Around} {outer : List Env} {s : Shared} {H : Hp} {E : XK} :
    (cxOf CX P w K mg base N qual scope f cd A outer s H E).nox.K = K := rfl
theorem cx_Kx {CX : CXT} {P : Program} {w : World} {K : PySem.W.Frag} {mg : Str → Option Value} {base : Heap} {N : List Str} {qual : Str} {scope : Scope} {f : Addr} {cd : Value} {A : Around} {outer : List Env} {s : Shared} {H : Hp} {E : XK} :
    (cxOf CX P w K mg base N qual scope f cd A outer s H E).K = K := rfl
/-! ## truth of known kinds -/
section
variable {M : Ms} {R : Bool → Prop}
theorem tr_b {b : Bool} (h : R b) : ∃ k, Tru M (.d (.bool b)) k ∧ R k := ⟨b, rfl, h⟩
theorem tr_i {i : Int} (h : R (i != 0)) : ∃ k, Tru M (.d (.int i)) k ∧ R k := ⟨_, rfl, h⟩
theorem tr_n (h : R false) : ∃ k, Tru M (.d .none) k ∧ R k := ⟨_, rfl, h⟩
theorem tr_s {s : Str} (hl : s.length ≤ sizeLine) (h : R ((s.length : Int) != 0)) : ∃ k, Tru M (.d (.str s)) k ∧ R k := ⟨_, ⟨hl, rfl⟩, h⟩
theorem tr_l {xs : List PyData} (h : R (!xs.isEmpty)) : ∃ k, Tru M (.d (.list xs)) k ∧ R k := ⟨_, rfl, h⟩
theorem tr_t {xs : List PyData} (h : R (!xs.isEmpty)) : ∃ k, Tru M (.d (.tuple xs)) k ∧ R k := ⟨_, rfl, h⟩
theorem tr_w {xs : List PyData} (h : R (!xs.isEmpty)) : ∃ k, Tru M (.w xs) k ∧ R k := ⟨_, rfl, h⟩
theorem tr_r {a : Addr} {xs : List Ent} (hm : M a = some (.lst xs)) (h : R (!xs.isEmpty)) : ∃ k, Tru M (.r a) k ∧ R k := ⟨_, ⟨xs, hm, rfl⟩, h⟩
end
theorem nd_rt {n : Ga → Ms → Prop} {r : Ent → Ms → Prop} {b c : Ga → Ms → Prop} {e : Ent} {M : Ms} (h : r e M) : (Nd.mk n r b c).rt e M := h
theorem nd_nx {n : Ga → Ms → Prop} {r : Ent → Ms → Prop} {b c : Ga → Ms → Prop} {Γ : Ga} {M : Ms} (h : n Γ M) : (Nd.mk n r b c).nx Γ M := h
theorem ex_ds {es : List Ent} {R : List PyData → Prop} (ds : List PyData) (h : es = ds.map Ent.d) (r : R ds) : ∃ ds, es = ds.map Ent.d ∧ R ds := ⟨ds, h, r⟩
def dsOf : List Ent → Option (List PyData)
  | [] => some []
  | .d x :: r => match dsOf r with
    | some l => some (x :: l)
    | none => none
  | _ => none
theorem dsOf_ok : ∀ {es : List Ent} {ds : List PyData}, dsOf es = some ds → es = ds.map Ent.d
  | [], ds, h => by
    cases h
    rfl
  | .d x :: r, ds, h => by
    have h' : (match dsOf r with
      | some l => some (x :: l)
      | none => none) = some ds := h
    cases e : dsOf r with
    | none =>
      rw [e] at h'
      cases h'
    | some z =>
      rw [e] at h'
      cases h'
      rw [dsOf_ok e]
      rfl
  | .r _ :: _, _, h => by cases h
  | .w _ :: _, _, h => by cases h
  | .t _ :: _, _, h => by cases h
/-- the items of a display -/
theorem ex_disp {es : List Ent} {ds : List PyData} {R : List PyData → Prop} (h : dsOf es = some ds) (hl : Nat.ble ds.length 1000 = true) (r : R ds) : ∃ ds, es = ds.map Ent.d ∧ ds.length ≤ sizeLine ∧ R ds :=
  ⟨ds, dsOf_ok h, Nat.le_trans (Nat.le_of_ble_eq_true hl) (by decide), r⟩
theorem ex_sub {a : Addr} {k : Int} {es : List Ent} {j : Nat} {e : Ent} {M : Ms} {R : Ms → Prop} (hm : M a = some (.lst es)) (hj : ixN es.length k = some j) (h : R (um M a (.lst (es.set j e)))) :
    ∃ a' es' k' j', Ent.r a = .r a' ∧ Ent.d (.int k) = .d (.int k') ∧ M a' = some (.lst es') ∧ ixN es'.length k' = some j' ∧ R (um M a' (.lst (es'.set j' e))) := ⟨a, es, k, j, rfl, rfl, hm, hj, h⟩
theorem ex_kw {es zs args : List Ent} {n m : Nat} {ix : List Nat} {c : ASp} {M : Ms} {P : Ent → Ms → Prop} {X : Xa} (h1 : es.length = n) (h2 : zs.length = m) (h3 : perm ix (es ++ zs) = args) (h : c args M P X) :
    es.length = n ∧ zs.length = m ∧ c (perm ix (es ++ zs)) M P X := ⟨h1, h2, by rw [h3]; exact h⟩
theorem ex_s {s : Str} {A : Prop} (h : A) : (∃ t, Ent.d (.str s) = .d (.str t)) ∧ A := ⟨⟨s, rfl⟩, h⟩
theorem ty_s {s : Str} {M : Ms} {A : Prop} (h : A) : TyM M "str" (.d (.str s)) ∧ A := ⟨rfl, h⟩
theorem ty_l {xs : List PyData} {M : Ms} {A : Prop} (h : A) : TyM M "list" (.d (.list xs)) ∧ A := ⟨rfl, h⟩
theorem ty_r {a : Addr} {es : List Ent} {M : Ms} {A : Prop} (hm : M a = some (.lst es)) (h : A) : TyM M "list" (.r a) ∧ A := ⟨⟨rfl, es, hm⟩, h⟩
theorem ex_lm {es : List Ent} {M : Ms} {R : Addr → Prop} (h : Nat.ble es.length 1000 = true) (k : ∀ a, M a = none → R a) : es.length ≤ sizeLine ∧ ∀ a, M a = none → R a := ⟨Nat.le_trans (Nat.le_of_ble_eq_true h) (by decide), k⟩
theorem ex_rg1 {j : Int} {R : Int → Prop} (h0 : -1000000 ≤ j) (h1 : j ≤ 1000000) (h : R j) : ∃ j', [Ent.d (.int j)] = [.d (.int j')] ∧ -(2 ^ 62) ≤ j' ∧ j' < 2 ^ 62 ∧ R j' := by
  have e : (2 : Int) ^ 62 = 4611686018427387904 := by decide
  exact ⟨j, rfl, by omega, by omega, h⟩
/-- a list that was made here is handed back and stops changing -/
theorem s_ret_fz {J : Jx} {Γ : Ga} {M M0 : Ms} {D : Nd} {i : Nat} {a : Addr} {ds : List PyData} (h : Γ[i]? = some (some (.r a))) (hm : M a = some (.lst (ds.map Ent.d))) (h0 : M0 a = none) (s : SameM M0 M) (p : D.rt (.d (.list ds)) M0) : Sx J (tRet (tVar i)) D Γ M := fun F Z σ H C en m x d => by
  obtain ⟨o, e1, v, e2, r⟩ := paired_get en h
  subst e2
  have ev : v = .ref a := r
  subst ev
  obtain ⟨vs, ea, rs⟩ := m.list hm
  obtain ⟨s2, m2⟩ := m.freeze hm ea
  refine ⟨_, e1, d.rt _ M0 H _ (.d (.list ds)) s2 (m2.weak fun b n hb => ?_) (Rp.lst upd_same ((rpAll_of rs).mono s2)) p⟩
  have nb : b ≠ a := fun q => by
    rw [q, h0] at hb
    cases hb
  unfold dl
  rw [if_neg nb]
  exact s b n hb
theorem um_swap {M : Ms} {a p : Addr} {x y b : Mo} (h : a ≠ p) : um (um (um M a x) p b) a y = um (um M a y) p b := by
  rw [um_comm (Ne.symm h), um_um]
theorem sameM_um {M : Ms} {a : Addr} {m : Mo} (h : M a = none) : SameM M (um M a m) := (SameM.refl M).um h
/-! ## comprehensions that change nothing -/
theorem w_lcf {J : Jx} {Γ : Ga} {M : Ms} {wi : TI} {g : TG} {tt : TT} {te : TE} {P : Ent → Ms → Prop} {vs : List Nat} {α : Type} (xs : List α) (e : α → Ent) (p : α → Bool) (f : α → PyData) (hw : WpOk g vs)
    (h : WI J wi Γ M fun its G M1 => its = xs.map e ∧ M1 = M ∧ xs.length ≤ sizeLine ∧ G M ∧
      (∀ x, x ∈ xs → GT J g (e x) (wipeG Γ vs) M fun Γ2 M2 => M2 = M ∧ (∀ B : Bool → Ms → Prop, B (p x) M → WT J tt Γ2 M B) ∧ (p x = true → ∀ R : Ent → Ms → Prop, R (.d (f x)) M → Wx J te Γ2 M R)) ∧
      P (.d (.list ((xs.filter p).map f))) M) : Wx J (tLc wi g tt te vs) Γ M P := by
  refine w_lc hw ?_
  intro F Z σ H en m x R q
  refine h F Z σ H en m x R fun I F' H' M' its G s m' aw hh => ?_
  obtain ⟨e1, e2, hl, hG, hs, hp⟩ := hh
  subst e1
  subst e2
  refine q I F' H' _ _ G s m' aw ⟨fun i ds M2 => M2 = M' ∧ ds = ((xs.take i).filter p).map f, by rw [List.length_map]; exact hl, ⟨rfl, rfl⟩, fun i ds M2 _ ⟨z, _⟩ => by rw [z]; exact hG, ?_, ?_⟩
  · rintro i ee ds M2 hi ⟨rfl, rfl⟩
    rw [List.getElem?_map] at hi
    cases ex : xs[i]? with
    | none =>
      rw [ex] at hi
      cases hi
    | some x =>
      rw [ex] at hi
      have he : ee = e x := (Option.some.inj hi).symm
      subst he
      have tk : xs.take (i + 1) = xs.take i ++ [x] := by rw [List.take_add_one, ex]; rfl
      intro F2 Z2 σ2 H2 v en2 mm2 x2 r2 Q2 q2
      refine hs x (List.mem_of_getElem? ex) F2 Z2 σ2 H2 v en2 mm2 x2 r2 Q2 fun F3 H3 σ3 Γ3 M3 s3 m3 en3 hh => ?_
      obtain ⟨rfl, ht, he⟩ := hh
      refine q2 F3 H3 σ3 Γ3 _ s3 m3 en3 (ht _ ⟨fun hb => ?_, fun hb => ?_⟩)
      · exact he hb _ ⟨_, rfl, rfl, by rw [tk, List.filter_append, List.map_append, List.filter_cons, if_pos hb]; rfl⟩
      · exact ⟨rfl, by rw [tk, List.filter_append, List.map_append, List.filter_cons, if_neg (by rw [hb]; decide)]; simp⟩
  · rintro ds M2 _ ⟨rfl, rfl⟩
    rw [List.length_map, List.take_length]
    exact hp
/-! ## ends -/
theorem q_of {Q : Ent → Ms → Prop} {e e' : Ent} {M M' : Ms} (k : Q e M) (he : e' = e) (hm : M' = M) : Q e' M' := by
  rw [he, hm]
  exact k
end Z
set_option Elab.async false
set_option linter.all false
set_option maxRecDepth 100000
set_option maxHeartbeats 4000000
namespace Z
open PySem PySem.Spec L2
/-! ## texts as lists of codes -/
abbrev cs (s : Str) : List Nat := s.cps.toList
theorem len_cs (s : Str) : s.length = (cs s).length := by simp [Str.length]
theorem cs_inj {s t : Str} (h : cs s = cs t) : s = t := TL.ext_tl h
theorem cs_app (s t : Str) : cs (s ++ t) = cs s ++ cs t := TL.tl_append s t
theorem len_app (s t : Str) : (s ++ t).length = s.length + t.length := by rw [len_cs, cs_app, List.length_append, ← len_cs, ← len_cs]
theorem cs_one (c : Nat) : cs ⟨#[c]⟩ = [c] := rfl
theorem prefix_take : ∀ b a : List Nat, (decide (b.length ≤ a.length) && (a.take b.length == b)) = b.isPrefixOf a
  | [], a => by simp
  | c :: b, [] => by simp
  | c :: b, d :: a => by
    have e := prefix_take b a
    show (decide (b.length + 1 ≤ a.length + 1) && (d :: a.take b.length == c :: b)) = ((c == d) && b.isPrefixOf a)
    rw [← e]
    by_cases h : c = d
    · subst h
      simp [Nat.succ_le_succ_iff]
    · have h1 : (c == d) = false := beq_false_of_ne h
      have h2 : (d == c) = false := beq_false_of_ne fun q => h q.symm
      simp [h1, h2]
theorem startswith_cs (x y : Str) : Txt.startswith x y = (cs y).isPrefixOf (cs x) := by
  rw [← prefix_take]
  show (decide (0 + y.length ≤ x.length) && Builtin.Str.subAt x y 0) = _
  rw [PySem.StrLaws.subAt_eq, List.drop_zero, Nat.zero_add]
  simp only [len_cs]
theorem starts1 (x : Str) (c : Nat) : Txt.startswith x ⟨#[c]⟩ = decide ((cs x).head? = some c) := by
  rw [startswith_cs, cs_one]
  cases h : cs x with
  | nil => rfl
  | cons d a =>
    by_cases e : c = d
    · subst e
      simp
    · have e' : ¬ d = c := fun q => e q.symm
      show ((c == d) && true) = decide (some d = some c)
      simp [e, e']
theorem cut_to (s : Str) (k : Nat) : cs (cutS s none (some (k : Int))) = (cs s).take k := by
  show (((cs s).drop (HT.sIx s.length 0 none)).take (HT.sIx s.length s.length (some (k : Int)) - HT.sIx s.length 0 none)) = _
  rw [HT.sIx_nat]
  show ((cs s).drop 0).take (min k s.length - 0) = _
  rw [List.drop_zero, Nat.sub_zero, len_cs]
  by_cases h : k ≤ (cs s).length
  · rw [Nat.min_eq_left h]
  · rw [Nat.min_eq_right (by omega), List.take_of_length_le (Nat.le_refl _), List.take_of_length_le (by omega)]
theorem cut_from (s : Str) (k : Nat) : cs (cutS s (some (k : Int)) none) = (cs s).drop k := by
  show (((cs s).drop (HT.sIx s.length 0 (some (k : Int)))).take (s.length - HT.sIx s.length 0 (some (k : Int)))) = _
  rw [HT.sIx_nat, len_cs]
  by_cases h : k ≤ (cs s).length
  · rw [Nat.min_eq_left h, List.take_of_length_le (by simp)]
  · rw [Nat.min_eq_right (by omega), List.drop_of_length_le (Nat.le_refl _), List.drop_of_length_le (by omega)]
    simp
theorem cut_len (s : Str) (a b : Option Int) : (cutS s a b).length ≤ s.length := by
  rw [len_cs, len_cs]
  show (((cs s).drop _).take _).length ≤ _
  rw [List.length_take, List.length_drop]
  omega
theorem join_cs (sep : Str) (ys : List Str) : cs (Txt.join sep ys) = TL.joinL (cs sep) (ys.map cs) := by
  rw [TL.join_eq]
  exact TL.tl_join sep ys
theorem join0 : ∀ parts : List (List Nat), TL.joinL [] parts = parts.flatten
  | [] => rfl
  | [a] => by simp [TL.joinL]
  | a :: b :: r => by
    have e := join0 (b :: r)
    show a ++ ([] ++ TL.joinL [] (b :: r)) = a ++ (b :: r).flatten
    rw [e]
    rfl
/-- "".join of texts of one sign each -/
theorem join_len1 {sep : Str} (hs : cs sep = []) : ∀ ys : List Str, (∀ y ∈ ys, y.length = 1) → (Txt.join sep ys).length = ys.length := by
  intro ys h
  rw [len_cs, join_cs, hs, join0]
  induction ys with
  | nil => rfl
  | cons y r ih =>
    have h1 := h y (List.mem_cons_self ..)
    rw [len_cs] at h1
    rw [List.map_cons, List.flatten_cons, List.length_append, h1, ih fun z hz => h z (List.mem_cons_of_mem _ hz), List.length_cons]
    omega
theorem join_len_le (sep : Str) : ∀ (ys : List Str) (B : Nat), (∀ y ∈ ys, y.length ≤ B) → (Txt.join sep ys).length ≤ ys.length * (B + sep.length) := by
  intro ys B h
  rw [len_cs, join_cs, len_cs sep]
  generalize cs sep = p
  induction ys with
  | nil => simp [TL.joinL]
  | cons y r ih =>
    have h1 := h y (List.mem_cons_self ..)
    rw [len_cs] at h1
    have ih' := ih fun z hz => h z (List.mem_cons_of_mem _ hz)
    have e : (r.length + 1) * (B + p.length) = r.length * (B + p.length) + (B + p.length) := Nat.succ_mul _ _
    cases r with
    | nil =>
      simp only [List.map_cons, List.map_nil, TL.joinL, List.length_cons, List.length_nil] at *
      omega
    | cons z r =>
      simp only [List.map_cons, TL.joinL, List.length_append, List.length_cons] at *
      omega
theorem mul_len (s : Str) (n : Int) : (Txt.mul s n).length ≤ s.length * n.toNat := by
  unfold Txt.mul
  split
  · exact Nat.zero_le _
  · split
    · rename_i h1 h2
      rw [Bool.or_eq_true, beq_iff_eq, beq_iff_eq] at h2
      rcases h2 with h2 | h2
      · subst h2
        simp
      · rw [h2]
        exact Nat.zero_le _
    · rw [len_cs, len_cs]
      generalize n.toNat = k
      have aux : ∀ (k : Nat) (acc : Array Nat), ((List.replicate k s.cps).foldl (· ++ ·) acc).toList.length = acc.toList.length + (cs s).length * k := by
        intro k
        induction k with
        | zero => intro acc; simp
        | succ k ih =>
          intro acc
          rw [List.replicate_succ, List.foldl_cons, ih, Array.toList_append, List.length_append, Nat.mul_succ]
          show acc.toList.length + (cs s).length + (cs s).length * k = _
          omega
      rw [show cs ⟨(List.replicate k s.cps).foldl (· ++ ·) #[]⟩ = ((List.replicate k s.cps).foldl (· ++ ·) #[]).toList from rfl, aux]
      simp
theorem sum_ones : ∀ ys : List Str, (∀ y ∈ ys, y.length = 1) → (ys.map (·.length)).sum = ys.length
  | [], _ => rfl
  | y :: r, h => by
    rw [List.map_cons, List.sum_cons, h y (List.mem_cons_self ..), sum_ones r fun z hz => h z (List.mem_cons_of_mem _ hz), List.length_cons]
    omega
theorem sum_le (B : Nat) : ∀ ys : List Str, (∀ y ∈ ys, y.length ≤ B) → (ys.map (·.length)).sum ≤ ys.length * B
  | [], _ => Nat.zero_le _
  | y :: r, h => by
    have h1 := h y (List.mem_cons_self ..)
    have h2 := sum_le B r fun z hz => h z (List.mem_cons_of_mem _ hz)
    rw [List.map_cons, List.sum_cons, List.length_cons, Nat.succ_mul]
    omega
/-! ## lists of data as typed lists -/
def intsOf : List PyData → Option (List Int)
  | [] => some []
  | .int i :: r => match intsOf r with
    | some l => some (i :: l)
    | none => none
  | _ => none
theorem intsOf_ok : ∀ {ds : List PyData} {l : List Int}, intsOf ds = some l → ds = l.map PyData.int
  | [], l, h => by cases h; rfl
  | .int i :: r, l, h => by
    have h' : (match intsOf r with
      | some l => some (i :: l)
      | none => none) = some l := h
    cases e : intsOf r with
    | none => rw [e] at h'; cases h'
    | some z => rw [e] at h'; cases h'; rw [intsOf_ok e]; rfl
  | .none :: _, _, h => by cases h
  | .bool _ :: _, _, h => by cases h
  | .str _ :: _, _, h => by cases h
  | .list _ :: _, _, h => by cases h
  | .tuple _ :: _, _, h => by cases h
  | .dict _ :: _, _, h => by cases h
def strsOf : List PyData → Option (List Str)
  | [] => some []
  | .str i :: r => match strsOf r with
    | some l => some (i :: l)
    | none => none
  | _ => none
theorem strsOf_ok : ∀ {ds : List PyData} {l : List Str}, strsOf ds = some l → ds = l.map PyData.str
  | [], l, h => by cases h; rfl
  | .str i :: r, l, h => by
    have h' : (match strsOf r with
      | some l => some (i :: l)
      | none => none) = some l := h
    cases e : strsOf r with
    | none => rw [e] at h'; cases h'
    | some z => rw [e] at h'; cases h'; rw [strsOf_ok e]; rfl
  | .none :: _, _, h => by cases h
  | .bool _ :: _, _, h => by cases h
  | .int _ :: _, _, h => by cases h
  | .list _ :: _, _, h => by cases h
  | .tuple _ :: _, _, h => by cases h
  | .dict _ :: _, _, h => by cases h
theorem eqv_strs : ∀ xs ys : List Str, PyData.eqvAll (xs.map PyData.str) (ys.map PyData.str) = decide (xs = ys)
  | [], [] => rfl
  | [], _ :: _ => rfl
  | _ :: _, [] => rfl
  | x :: xs, y :: ys => by
    show (PyData.eqv (.str x) (.str y) && PyData.eqvAll (xs.map PyData.str) (ys.map PyData.str)) = _
    rw [eqv_strs xs ys]
    show ((x == y) && decide (xs = ys)) = _
    by_cases h : x = y
    · subst h
      simp
    · simp [h]
theorem noObj_strs : ∀ xs : List Str, noObjs (xs.map PyData.str) = true
  | [] => rfl
  | _ :: xs => by
    show (true && noObjs (xs.map PyData.str)) = true
    rw [noObj_strs xs]
    rfl
def okS (s : Str) : Bool := (cs s).all fun c => decide (c < 1114112)
theorem strOk_iff {s : Str} (h : okS s = true) : PyData.strOk s = true := by
  unfold PyData.strOk
  rw [← Array.all_toList]
  exact h
theorem lay_strs : ∀ xs : List Str, (∀ x ∈ xs, okS x = true) → PyData.canLayAll0 (xs.map PyData.str) = true ∧ PyData.depthAll (xs.map PyData.str) = 0
  | [], _ => ⟨rfl, rfl⟩
  | x :: xs, h => by
    obtain ⟨h1, h2⟩ := lay_strs xs fun z hz => h z (List.mem_cons_of_mem _ hz)
    refine ⟨?_, ?_⟩
    · show (PyData.strOk x && PyData.canLayAll0 (xs.map PyData.str)) = true
      rw [h1, Bool.and_true]
      exact strOk_iff (h x (List.mem_cons_self ..))
    · show max (PyData.depth (.str x)) (PyData.depthAll (xs.map PyData.str)) = 0
      rw [h2]
      rfl
theorem shaped_strs (xs : List Str) (h : ∀ x ∈ xs, okS x = true) : SeqAt.shaped (.list (xs.map PyData.str)) = true := by
  obtain ⟨h1, h2⟩ := lay_strs xs h
  show (PyData.canLayAll0 (xs.map PyData.str) && decide (PyData.depthAll (xs.map PyData.str) + 1 ≤ 64)) = true
  rw [h1, h2]
  rfl
theorem strip_mem {x y : Str} {c : Nat} (h : c ∈ cs (Txt.stripChars x y)) : c ∈ cs x := by
  unfold Txt.stripChars Txt.stripBy at h
  split at h
  · exact h
  · have h2 : c ∈ (x.cps.extract (stripLo y.cps.contains true x) (stripHi y.cps.contains true x (stripLo y.cps.contains true x))).toList := h
    rw [Array.toList_extract] at h2
    rw [List.extract_eq_take_drop] at h2
    exact List.mem_of_mem_drop (List.mem_of_mem_take h2)
theorem strip_len (x y : Str) : (Txt.stripChars x y).length ≤ x.length := by
  unfold Txt.stripChars Txt.stripBy
  split
  · exact Nat.le_refl _
  · rw [len_cs, len_cs x]
    show ((x.cps.extract _ _).toList).length ≤ _
    rw [Array.toList_extract, List.extract_eq_take_drop, List.length_take, List.length_drop]
    show _ ≤ x.cps.toList.length
    omega
theorem spl1_cons (s c : Nat) (acc r : List Nat) : TL.spl [s] 0 acc (c :: r) = if c = s then acc :: TL.spl [s] 0 [] r else TL.spl [s] 0 (acc ++ [c]) r := by
  by_cases h : c = s
  · subst h
    rw [if_pos rfl]
    exact TL.spl_hit (by simp [TL.pre])
  · rw [if_neg h]
    exact TL.spl_miss (by simp [TL.pre, h])
theorem spl1_nil (s : Nat) (acc : List Nat) : TL.spl [s] 0 acc [] = [acc] := TL.spl_nil _ _ _
theorem spl1_mem {s : Nat} : ∀ {r acc p : List Nat} {c : Nat}, p ∈ TL.spl [s] 0 acc r → c ∈ p → c ∈ acc ∨ c ∈ r
  | [], acc, p, c, hp, hc => by
    rw [spl1_nil, List.mem_singleton] at hp
    rw [hp] at hc
    exact .inl hc
  | d :: r, acc, p, c, hp, hc => by
    rw [spl1_cons] at hp
    split at hp
    · rcases List.mem_cons.mp hp with e | hp
      · rw [e] at hc
        exact .inl hc
      · rcases spl1_mem hp hc with h | h
        · cases h
        · exact .inr (List.mem_cons_of_mem _ h)
    · rcases spl1_mem hp hc with h | h
      · rcases List.mem_append.mp h with h | h
        · exact .inl h
        · rw [List.mem_singleton] at h
          rw [h]
          exact .inr (List.mem_cons_self ..)
      · exact .inr (List.mem_cons_of_mem _ h)
theorem spl1_len {s : Nat} : ∀ (r acc : List Nat), (TL.spl [s] 0 acc r).length ≤ r.length + 1
  | [], acc => by rw [spl1_nil]; exact Nat.le_refl _
  | d :: r, acc => by
    rw [spl1_cons]
    split
    · rw [List.length_cons, List.length_cons]
      have := spl1_len (s := s) r []
      omega
    · rw [List.length_cons]
      have := spl1_len (s := s) r (acc ++ [d])
      omega
theorem split1 (x : Str) (s : Nat) (hs : s < 256) : (Txt.split x ⟨#[s]⟩).map cs = TL.spl [s] 0 [] (cs x) :=
  TL.split_spl x ⟨#[s]⟩ (by simp) (TL.kind_ok (by simp [hs]))
theorem split1_eq (x : Str) (s : Nat) (hs : s < 256) : Txt.split x ⟨#[s]⟩ = (TL.spl [s] 0 [] (cs x)).map fun l => ⟨l.toArray⟩ := by
  rw [← split1 x s hs, List.map_map]
  have e : (fun y : Str => (⟨(cs y).toArray⟩ : Str)) = id := funext fun y => TL.mk_tl y
  show _ = (Txt.split x ⟨#[s]⟩).map fun y => (⟨(cs y).toArray⟩ : Str)
  rw [e, List.map_id]
theorem split1_mem {x p : Str} {s c : Nat} (hs : s < 256) (hp : p ∈ Txt.split x ⟨#[s]⟩) (hc : c ∈ cs p) : c ∈ cs x := by
  have h : cs p ∈ TL.spl [s] 0 [] (cs x) := by
    rw [← split1 x s hs]
    exact List.mem_map_of_mem hp
  rcases spl1_mem h hc with q | q
  · cases q
  · exact q
theorem split1_len {x : Str} {s : Nat} (hs : s < 256) : (Txt.split x ⟨#[s]⟩).length ≤ x.length + 1 := by
  have e := congrArg List.length (split1 x s hs)
  rw [List.length_map] at e
  rw [e, len_cs]
  exact spl1_len _ _
theorem piece_len {x : Str} {s : Nat} (hs : s < 256) {p : Str} (hp : p ∈ Txt.split x ⟨#[s]⟩) : p.length ≤ x.length := by
  have h : cs p ∈ TL.spl [s] 0 [] (cs x) := by
    rw [← split1 x s hs]
    exact List.mem_map_of_mem hp
  have aux : ∀ (r acc p : List Nat), p ∈ TL.spl [s] 0 acc r → p.length ≤ acc.length + r.length := by
    intro r
    induction r with
    | nil =>
      intro acc p hp
      rw [spl1_nil, List.mem_singleton] at hp
      rw [hp]
      exact Nat.le_add_right _ _
    | cons d r ih =>
      intro acc p hp
      rw [spl1_cons] at hp
      split at hp
      · rcases List.mem_cons.mp hp with e | hp
        · rw [e]
          exact Nat.le_add_right _ _
        · have := ih [] p hp
          rw [List.length_cons]
          simp only [List.length_nil] at this
          omega
      · have := ih _ p hp
        rw [List.length_append, List.length_singleton] at this
        rw [List.length_cons]
        omega
  have q := aux _ _ _ h
  rw [len_cs, len_cs x]
  simpa using q
section
variable {J : Jx} {M : Ms} {P : Ent → Ms → Prop}
theorem o_eqSs {xs ys : List Str} (hx : ∀ x ∈ xs, okS x = true) (hy : ∀ x ∈ ys, okS x = true) (p : P (.d (.bool (decide (xs = ys)))) M) : O2 J (rEqU J.K) (.d (.list (xs.map PyData.str))) (.d (.list (ys.map PyData.str))) M P :=
  o_eqL (noObj_strs xs) (noObj_strs ys) (shaped_strs xs hx) (shaped_strs ys hy) (by
    show P (.d (.bool (PyData.eqvAll (xs.map PyData.str) (ys.map PyData.str)))) M
    rw [eqv_strs]
    exact p)
theorem m_joinM {s : Str} {a : Addr} {ys : List Str} (hm : M a = some (.lst (ys.map fun y => Ent.d (.str y)))) (hl : (ys.map (·.length)).sum + ys.length * s.length ≤ 16777216) (p : P (.d (.str (Txt.join s ys))) M) : OM J (rJoin J.K) (.d (.str s)) [.r a] M P := fun F Z H v vs m xr r1 r2 Q q => by
  cases r1
  cases r2 with
  | cons r0 rt =>
    cases rt
    cases r0
    obtain ⟨ws, e, rs⟩ := m.list hm
    have e2 : ys.map (fun y => Ent.d (.str y)) = (ys.map PyData.str).map Ent.d := by rw [List.map_map]; rfl
    rw [e2] at rs
    have ev := (rpAll_of rs).strs
    subst ev
    exact ⟨s, _, ys, rfl, rfl, .inl (.inl (.inl e)), hl, q _ F H (.d (.str _)) M (Same.refl F) m (Rp.str _) p⟩
theorem s_ret_weak {J : Jx} {Γ : Ga} {M : Ms} {D : Nd} {te : TE} (h : Wx J te Γ M fun e M1 => ∃ M0, SameM M0 M1 ∧ D.rt e M0) : Sx J (tRet te) D Γ M := fun F Z σ H C en m x d =>
  h F Z σ H en m x _ fun v F' H' e M' s m' r ⟨M0, w, p⟩ => d.rt F' M0 H' v e s (m'.weak w) r p
theorem sameM_two {M : Ms} {l p : Addr} {x b : Mo} (h : M l = none) (n : l ≠ p) : SameM (um M p b) (um (um M l x) p b) := fun a m e => by
  by_cases hp : a = p
  · subst hp
    rw [um_same] at e ⊢
    exact e
  · rw [um_ne hp] at e ⊢
    by_cases hl : a = l
    · subst hl
      rw [h] at e
      cases e
    · rw [um_ne hl]
      exact e
end
end Z
set_option Elab.async false
set_option linter.all false
set_option maxRecDepth 100000
set_option maxHeartbeats 4000000
namespace Z
open PySem PySem.Spec L2
section
variable {J : Jx} {Γ : Ga} {M : Ms} {P : Ent → Ms → Prop}
theorem m_partition {a b : Str} (hb : (b.length == 0) = false) (hl : a.length ≤ sizeLine) (p : P (.d (.tuple [.str (Txt.partition a b).1, .str (Txt.partition a b).2.1, .str (Txt.partition a b).2.2])) M) : OM J (fun x xs H Q => ∃ a b, x = .str a ∧ xs = [.str b] ∧ (b.length == 0) = false ∧ a.length ≤ sizeLine ∧
    ∀ p, H p = none → Q (.ref p) (upd H p (.tup [.str (Txt.partition a b).1, .str (Txt.partition a b).2.1, .str (Txt.partition a b).2.2]))) (.d (.str a)) [.d (.str b)] M P := fun F Z H v vs m xr r1 r2 Q q => by
  cases r1
  cases r2 with
  | cons r0 rt =>
    cases rt
    cases r0
    refine ⟨a, b, rfl, rfl, hb, hl, fun l n => ?_⟩
    obtain ⟨s3, m3⟩ := m.newF (o := .tup _) n
    exact q _ _ _ (.d (.tuple _)) M s3 m3 (Rp.tup (.inl (.inl upd_same)) (.cons (.str _) (.cons (.str _) (.cons (.str _) .nil)))) p
theorem n_str {i : Int} (h : i.natAbs.log2 < 1920) (p : P (.d (.str (Str.ofString (toString i)))) M) : ON J (fun xs H Q => ∃ i, xs = [.int i] ∧ i.natAbs.log2 < 1920 ∧ Q (.str (toString i)) H) [.d (.int i)] M P := fun F Z H vs m xr r1 Q q => by
  cases r1 with
  | cons r0 rt =>
    cases rt
    cases r0
    exact ⟨i, rfl, h, q _ F H (.d (.str _)) M (Same.refl F) m (Rp.str _) p⟩
end
theorem s_wk {J : Jx} {Γ : Ga} {M : Ms} {D : Nd} {t : TS} (h : Sx J t { D with rt := fun e M1 => ∃ M0, SameM M0 M1 ∧ D.rt e M0 } Γ M) : Sx J t D Γ M := fun F Z σ H C en m x d =>
  h F Z σ H C en m x ⟨d.nx, fun F' M' H' v e s m' r ⟨M0, w, p⟩ => d.rt F' M0 H' v e s (m'.weak w) r p, d.bk, d.ct⟩
theorem s_retF {J : Jx} {Γ : Ga} {M : Ms} {D : Nd} {i : Nat} {a : Addr} (h : Γ[i]? = some (some (.r a))) (p : ∃ ds M0, M a = some (.lst (ds.map Ent.d)) ∧ M0 a = none ∧ SameM M0 M ∧ D.rt (.d (.list ds)) M0) : Sx J (tRet (tVar i)) D Γ M := by
  obtain ⟨ds, M0, h1, h2, h3, h4⟩ := p
  exact s_ret_fz h h1 h2 h3 h4
theorem o_ixTs {J : Jx} {M : Ms} {P : Ent → Ms → Prop} {ds : List PyData} {xs : List Str} {n : Nat} {i : Int} (hx : strsOf ds = some xs) (h0 : 0 ≤ i) (h1 : i < (xs.length : Int)) (hB : ∀ s ∈ xs, s.length ≤ n) (q : ∀ s : Str, s ∈ xs → s.length ≤ n → P (.d (.str s)) M) : O2 J (rIx J.K) (.d (.list ds)) (.d (.int i)) M P := by
  have e := strsOf_ok hx
  have hi : i.toNat < xs.length := by omega
  refine o_ixL (d := .str xs[i.toNat]) (atI_nat' h0 ?_) (q _ (List.getElem_mem hi) (hB _ (List.getElem_mem hi)))
  rw [e, List.getElem?_map, List.getElem?_eq_getElem hi]
  rfl
theorem noObj_map {α : Type} (f : α → PyData) (xs : List α) (h : ∀ x, noObj (f x) = true) : noObj (.list (xs.map f)) = true := by
  show noObjs (xs.map f) = true
  induction xs with
  | nil => rfl
  | cons x xs ih =>
    show (noObj (f x) && noObjs (xs.map f)) = true
    rw [h x, ih]
    rfl
theorem log_small {i : Int} {k : Nat} (h : i.natAbs ≤ k) (hk : k.log2 < 1920) : i.natAbs.log2 < 1920 := by
  by_cases e : i.natAbs = 0
  · rw [e]; decide
  · have h1 : i.natAbs.log2 ≤ k.log2 := by
      rw [Nat.le_log2 (by omega)]
      exact Nat.le_trans (Nat.log2_self_le e) h
    omega
theorem numL_len (k : Nat) : ∀ n : Nat, n < 10 ^ (k + 1) → (TL.numL n).length ≤ k + 1 := by
  induction k with
  | zero => intro n h; rw [TL.numL_lt (by simpa using h)]; exact Nat.le_refl _
  | succ k ih =>
    intro n h
    by_cases h1 : n < 10
    · rw [TL.numL_lt h1]
      show 1 ≤ _
      omega
    · rw [TL.numL_step (by omega), List.length_append]
      have := ih (n / 10) (by rw [Nat.pow_succ] at h; omega)
      show _ + 1 ≤ _
      omega
theorem str_nat_len {i : Int} (k : Nat) (h0 : 0 ≤ i) (h : i < ((10 ^ (k + 1) : Nat) : Int)) : (Str.ofString (toString i)).length ≤ k + 1 := by
  obtain ⟨n, rfl⟩ := Int.eq_ofNat_of_zero_le h0
  rw [len_cs]
  have e : cs (Str.ofString (toString ((n : Nat) : Int))) = TL.numL n := TL.tl_num n
  show (cs (Str.ofString (toString ((n : Nat) : Int)))).length ≤ _
  rw [e]
  exact numL_len k n (by omega)
theorem n_str7 {J : Jx} {M : Ms} {P : Ent → Ms → Prop} {i : Int} (h0 : 0 ≤ i) (h1 : i ≤ 1000000) (p : ∀ s : Str, s.length ≤ 7 → P (.d (.str s)) M) : ON J (fun xs H Q => ∃ i, xs = [.int i] ∧ i.natAbs.log2 < 1920 ∧ Q (.str (toString i)) H) [.d (.int i)] M P :=
  n_str (log_small (k := 1000000) (by omega) (by decide +kernel)) (p _ (str_nat_len 6 h0 (by omega)))
theorem o_ixSs {J : Jx} {M : Ms} {P : Ent → Ms → Prop} {s : Str} {i : Int} (hl : s.length ≤ 1000000) (h0 : 0 ≤ i) (h1 : i < (s.length : Int)) (q : ∀ c, c ∈ cs s → P (.d (.str ⟨#[c]⟩)) M) : O2 J (rIx J.K) (.d (.str s)) (.d (.int i)) M P := by
  have hi : i.toNat < (cs s).length := by rw [← len_cs]; omega
  exact o_ixS (c := (cs s)[i.toNat]) (Nat.le_trans hl (by decide)) (atI_nat' h0 (List.getElem?_eq_getElem hi)) (q _ (List.getElem_mem hi))
/-! ### the first place of a sign -/
theorem cut_at (x : Str) (c : Nat) : c ∉ cs x ∨ ∃ a b : Str, x = a ++ (⟨#[c]⟩ : Str) ++ b ∧ c ∉ cs a := by
  by_cases h : c ∈ cs x
  · obtain ⟨as, bs, e, hn⟩ := List.eq_append_cons_of_mem h
    refine .inr ⟨⟨as.toArray⟩, ⟨bs.toArray⟩, cs_inj ?_, by simpa using hn⟩
    rw [cs_app, cs_app, e, List.append_assoc]
    rfl
  · exact .inl h
theorem part_no {x : Str} {c : Nat} (h : c ∉ cs x) : Txt.partition x ⟨#[c]⟩ = (x, Str.empty, Str.empty) := TL.partition_none (s := c) (S := []) rfl h
theorem part_yes {a b : Str} {c : Nat} (h : c ∉ cs a) : Txt.partition (a ++ (⟨#[c]⟩ : Str) ++ b) ⟨#[c]⟩ = (a, ⟨#[c]⟩, b) := TL.partition_app (s := c) (S := []) rfl h
theorem find_no {x : Str} {c : Nat} (h : c ∉ cs x) : Txt.find x ⟨#[c]⟩ = -1 := by
  have e := part_no h
  unfold Txt.partition at e
  unfold Txt.find
  cases ho : Builtin.Str.occurrences x ⟨#[c]⟩ 0 x.length 1 with
  | nil => rfl
  | cons i r =>
    rw [ho] at e
    have e2 := congrArg (fun p => cs p.2.1) e
    exact absurd e2 (by intro q; cases q)
theorem find_yes {a b : Str} {c : Nat} (h : c ∉ cs a) : Txt.find (a ++ (⟨#[c]⟩ : Str) ++ b) ⟨#[c]⟩ = (a.length : Int) := by
  have e := part_yes (b := b) h
  unfold Txt.partition at e
  unfold Txt.find
  cases ho : Builtin.Str.occurrences (a ++ (⟨#[c]⟩ : Str) ++ b) ⟨#[c]⟩ 0 (a ++ (⟨#[c]⟩ : Str) ++ b).length 1 with
  | nil =>
    rw [ho] at e
    have e2 := congrArg (fun p => cs p.2.1) e
    exact absurd e2 (by intro q; cases q)
  | cons i r =>
    rw [ho] at e
    have e2 := congrArg (fun p => (cs p.1).length) e
    have e3 := congrArg (fun p => (cs p.2.2).length) e
    have l1 : (⟨#[c]⟩ : Str).length = 1 := rfl
    simp only [cs, TL.tl_strSub, List.length_take, List.length_drop] at e2 e3
    have t1 : (TL.tl (a ++ (⟨#[c]⟩ : Str) ++ b)).length = (a ++ (⟨#[c]⟩ : Str) ++ b).length := (len_cs _).symm
    have t2 : a.cps.toList.length = a.length := (len_cs a).symm
    have t3 : b.cps.toList.length = b.length := (len_cs b).symm
    rw [t1] at e2 e3
    rw [t2] at e2
    rw [t3] at e3
    rw [len_app, len_app, l1] at e2 e3
    show (i : Int) = _
    omega
end Z
set_option Elab.async false
set_option linter.all false
set_option maxRecDepth 100000
set_option maxHeartbeats 4000000
namespace K16
open PySem PySem.Spec L2 Z
def topS (i : Nat) : Stmt := PySem.Challenge.pw_hopkeep_k16_wanted_ranges.main.body.getD i (.Pass ⟨0, 0, 0, 0⟩)
def fn : List He.DefD := [dd "consists_of" (topS 3),
  dd "list_elements" (topS 4),
  dd "resolve" (topS 10),
  dd "_law_source" (topS 12),
  dd "_law_mixed" (topS 13),
  dd "_law_integer" (topS 15),
  dd "_law_number" (topS 17),
  dd "_law_odd" (topS 20),
  dd "_law_resolved" (topS 26),
  dd "read_number" (topS 5),
  dd "_law_draw" (topS 14),
  dd "_law_same_pairs" (topS 16),
  dd "_law_range" (topS 18),
  dd "_law_same_side" (topS 24),
  dd "read_range" (topS 8),
  dd "_law_ranges" (topS 19),
  dd "_law_element" (topS 21),
  dd "_law_bent" (topS 23),
  dd "_law_same_ranges" (topS 25),
  dd "_law_totals" (topS 27),
  dd "read_ranges" (topS 9),
  dd "_law_wish" (topS 22),
  dd "_law_asks" (topS 28),
  dd "law" (topS 29)]
def fa : List He.Fa := [.free "all",
  .glo "consists_of",
  .glo "list_elements",
  .free "max",
  .free "min",
  .glo "resolve",
  .free "list",
  .free "int",
  .glo "_law_source",
  .glo "_law_mixed",
  .free "isinstance",
  .free "bool",
  .glo "_law_integer",
  .free "len",
  .glo "_law_number",
  .glo "_law_odd",
  .glo "_law_resolved",
  .int "MOST_DIGITS" 6,
  .str "DIGITS" "0123456789",
  .glo "read_number",
  .glo "_law_draw",
  .free "range",
  .free "tuple",
  .glo "_law_same_pairs",
  .glo "_law_range",
  .glo "_law_same_side",
  .glo "read_range",
  .glo "_law_ranges",
  .free "str",
  .glo "_law_element",
  .glo "_law_bent",
  .glo "_law_same_ranges",
  .glo "_law_totals",
  .free "any",
  .int "MOST_RANGES" 20,
  .glo "read_ranges",
  .glo "_law_wish",
  .glo "_law_asks",
  .glo "law"]

open PySem.NumText
def plainC (c : Nat) : Bool := decide (32 ≤ c) && (decide (c ≤ 126) && !decide (c = 37))
def allIn (s t : Str) : Bool := (cs s).all fun c => decide (c ∈ cs t)
def Bg (ns : List Int) (i : Nat) (b n s : Int) : Mo := .lst [.d (.list (ns.map PyData.int)), .d (.int i), .d (.int b), .d (.int n), .d (.int s)]
theorem fm0 {i j : Int} (h : 0 < j) : 0 ≤ i.fmod j := Int.fmod_nonneg_of_pos i h
theorem fm1 {i j : Int} (h : 0 < j) : i.fmod j < j := Int.fmod_lt_of_pos i h
theorem map_get {α β : Type} {f : α → β} {xs : List α} {i : Nat} {y : β} (h : (xs.map f)[i]? = some y) : ∃ x, xs[i]? = some x ∧ y = f x := by
  rw [List.getElem?_map] at h
  cases e : xs[i]? with
  | none => rw [e] at h; cases h
  | some x => rw [e] at h; exact ⟨x, rfl, (Option.some.inj h).symm⟩
theorem take_succ {α : Type} {xs : List α} {i : Nat} {x : α} (h : xs[i]? = some x) : xs.take (i + 1) = xs.take i ++ [x] := by
  rw [List.take_add_one, h]; rfl
theorem drop_cons {α : Type} {xs : List α} {i : Nat} {x : α} (h : xs[i]? = some x) : xs.drop i = x :: xs.drop (i + 1) := by
  obtain ⟨h1, h2⟩ := List.getElem?_eq_some_iff.mp h
  rw [List.drop_eq_getElem_cons h1, h2]
theorem sg_map (s : Str) : sgE s = (cs s).map fun c => Ent.d (.str ⟨#[c]⟩) := rfl
theorem str_one_inj {c d : Nat} : ((⟨#[c]⟩ : Str) = ⟨#[d]⟩) ↔ c = d := by
  constructor
  · intro h
    have e := congrArg cs h
    simpa using e
  · intro h
    rw [h]
abbrev SIGNS : Str := Str.ofString " !\"#$&'()*+,-./0123456789:;<=>?@ABCDEFGHIJKLMNOPQRSTUVWXYZ[\\]^_`" ++ Str.ofString "abcdefghijklmnopqrstuvwxyz{|}~"
abbrev LETTERS : Str := "abcdefghijklmnopqrstuvwxyz"
abbrev DIGITS : Str := "0123456789"
theorem signs_cs : cs SIGNS = [32, 33, 34, 35, 36, 38, 39, 40, 41, 42, 43, 44, 45, 46, 47, 48, 49, 50, 51, 52, 53, 54, 55, 56, 57, 58, 59, 60, 61, 62, 63, 64, 65, 66, 67, 68, 69, 70, 71, 72, 73, 74, 75, 76, 77, 78, 79, 80, 81, 82, 83, 84, 85, 86, 87, 88, 89, 90, 91, 92, 93, 94, 95, 96, 97, 98, 99, 100, 101, 102, 103, 104, 105, 106, 107, 108, 109, 110, 111, 112, 113, 114, 115, 116, 117, 118, 119, 120, 121, 122, 123, 124, 125, 126] := by decide +kernel
theorem letters_cs : cs LETTERS = [97, 98, 99, 100, 101, 102, 103, 104, 105, 106, 107, 108, 109, 110, 111, 112, 113, 114, 115, 116, 117, 118, 119, 120, 121, 122] := by decide +kernel
theorem digits_cs : cs DIGITS = [48, 49, 50, 51, 52, 53, 54, 55, 56, 57] := by decide +kernel
theorem plain_signs (c : Nat) : plainC c = decide (c ∈ cs SIGNS) := by
  rw [signs_cs]
  by_cases h : c < 127
  · have all : ∀ c, c < 127 → plainC c = decide (c ∈ [32, 33, 34, 35, 36, 38, 39, 40, 41, 42, 43, 44, 45, 46, 47, 48, 49, 50, 51, 52, 53, 54, 55, 56, 57, 58, 59, 60, 61, 62, 63, 64, 65, 66, 67, 68, 69, 70, 71, 72, 73, 74, 75, 76, 77, 78, 79, 80, 81, 82, 83, 84, 85, 86, 87, 88, 89, 90, 91, 92, 93, 94, 95, 96, 97, 98, 99, 100, 101, 102, 103, 104, 105, 106, 107, 108, 109, 110, 111, 112, 113, 114, 115, 116, 117, 118, 119, 120, 121, 122, 123, 124, 125, 126]) := by decide +kernel
    exact all c h
  · have h1 : plainC c = false := by
      unfold plainC
      rw [decide_eq_false (show ¬ c ≤ 126 by omega)]
      simp
    rw [h1]
    refine (decide_eq_false fun hm => ?_).symm
    have hb : ∀ x ∈ [32, 33, 34, 35, 36, 38, 39, 40, 41, 42, 43, 44, 45, 46, 47, 48, 49, 50, 51, 52, 53, 54, 55, 56, 57, 58, 59, 60, 61, 62, 63, 64, 65, 66, 67, 68, 69, 70, 71, 72, 73, 74, 75, 76, 77, 78, 79, 80, 81, 82, 83, 84, 85, 86, 87, 88, 89, 90, 91, 92, 93, 94, 95, 96, 97, 98, 99, 100, 101, 102, 103, 104, 105, 106, 107, 108, 109, 110, 111, 112, 113, 114, 115, 116, 117, 118, 119, 120, 121, 122, 123, 124, 125, 126], x < 127 := by decide +kernel
    exact h (hb c hm)
theorem plain_all (s : Str) : (cs s).all plainC = allIn s SIGNS := by
  unfold allIn
  congr 1
  funext c
  exact plain_signs c
abbrev PATHS : Str := "abcdefghijklmnopqrstuvwxyz0123456789/-."
abbrev NAMES : Str := "abcdefghijklmnopqrstuvwxyz0123456789-"
def pathB (s : Str) : Bool := decide ((cs s).head? = some 47) && (decide ((cs s).length ≤ 60) && allIn s PATHS)
def headIn (s t : Str) : Bool := match (cs s).head? with
  | some c => decide (c ∈ cs t)
  | none => false
def nameB (s : Str) : Bool := decide (1 ≤ (cs s).length) && (decide ((cs s).length ≤ 30) && (!decide (s = "length") && (headIn s LETTERS && allIn s NAMES)))
def valueB (s : Str) : Bool := decide ((cs s).length ≤ 200) && (allIn s SIGNS && decide (s = Txt.stripChars s " "))
def digB (s : Str) : Bool := decide (1 ≤ (cs s).length) && (decide ((cs s).length ≤ 6) && (allIn s DIGITS && !(decide ((cs s).head? = some 48) && !decide (s = "0"))))
def num (s : Str) : Option Int := if digB s = true then some ((digitsVal (cs s) : Nat) : Int) else none
@[reducible] def oi : Option Int → PyData
  | none => .none
  | some n => .int n
theorem dig_all {s : Str} (h : digB s = true) : AllDigits (cs s) ∧ cs s ≠ [] ∧ s.length ≤ 6 := by
  unfold digB allIn at h
  simp only [Bool.and_eq_true, decide_eq_true_eq] at h
  obtain ⟨h1, h2, h3, _⟩ := h
  refine ⟨fun c hc => ?_, fun e => ?_, by rw [len_cs]; exact h2⟩
  · have hm := List.all_eq_true.mp h3 c hc
    rw [decide_eq_true_eq, digits_cs] at hm
    simp only [List.mem_cons, List.not_mem_nil, or_false] at hm
    omega
  · rw [e] at h1
    exact absurd h1 (by decide)
theorem dig_int {s : Str} (h : digB s = true) : PySem.intText? s = some ((digitsVal (cs s) : Nat) : Int) := by
  obtain ⟨h1, h2, h3⟩ := dig_all h
  exact intText_digits h1 h2 (by omega)

def finish (p : List Nat) : List Str := if Txt.stripChars ⟨p.toArray⟩ " " = "" then [] else [Txt.stripChars ⟨p.toArray⟩ " "]
def wordsL (ps : List (List Nat)) : List Str := ps.flatMap finish
def wordsS (s : Str) : List Str := wordsL (TL.spl [44] 0 [] (cs s))
theorem comma_cs : cs (Str.ofString ",") = [44] := by decide +kernel
theorem finish_nil : finish [] = [] := by decide +kernel
theorem words_app (acc r : List Nat) : wordsL (TL.spl [44] 0 acc (r ++ [44])) = wordsL (TL.spl [44] 0 acc r) := by
  induction r generalizing acc with
  | nil =>
    rw [List.nil_append, spl1_cons, if_pos rfl, spl1_nil, spl1_nil]
    unfold wordsL
    rw [List.flatMap_cons, List.flatMap_cons, finish_nil]
    simp
  | cons c r ih =>
    rw [List.cons_append, spl1_cons, spl1_cons]
    split
    · unfold wordsL
      rw [List.flatMap_cons, List.flatMap_cons]
      have := ih []
      unfold wordsL at this
      rw [this]
    · exact ih _
theorem finish_len (p : List Nat) : (finish p).length ≤ 1 := by
  unfold finish
  split <;> simp
theorem finish_str (s : Str) : finish (cs s) = if Txt.stripChars s " " = "" then [] else [Txt.stripChars s " "] := by
  unfold finish
  rw [show (⟨(cs s).toArray⟩ : Str) = s from TL.mk_tl s]
theorem split_words (s : Str) : (Txt.split s ⟨#[44]⟩).flatMap (fun p => finish (cs p)) = wordsS s := by
  unfold wordsS wordsL
  rw [← split1 s 44 (by decide), List.flatMap_map]
theorem words_ok {s : Str} (h : allIn s SIGNS = true) : ∀ x ∈ wordsS s, okS x = true := by
  intro x hx
  unfold wordsS wordsL at hx
  rw [List.mem_flatMap] at hx
  obtain ⟨p, hp, hx⟩ := hx
  unfold finish at hx
  split at hx
  · cases hx
  · rw [List.mem_singleton] at hx
    unfold okS
    rw [List.all_eq_true]
    intro c hc
    rw [hx] at hc
    have h1 : c ∈ p := by
      have := strip_mem hc
      simpa using this
    rcases spl1_mem hp h1 with q | q
    · cases q
    · have h2 := List.all_eq_true.mp h c q
      rw [← plain_signs] at h2
      unfold plainC at h2
      simp only [Bool.and_eq_true, decide_eq_true_eq] at h2
      exact decide_eq_true (by omega)
/-! digit strings: the value is 0 only for "0" -/
theorem dv_ge (l : List Nat) (a : Nat) : a ≤ l.foldl (fun acc c => acc * 10 + (c - 48)) a := by
  induction l generalizing a with
  | nil => exact Nat.le_refl _
  | cons c l ih =>
    rw [List.foldl_cons]
    exact Nat.le_trans (by omega) (ih _)
theorem dig_zero {s : Str} (h : digB s = true) : digitsVal (cs s) = 0 ↔ s = "0" := by
  have h0 := h
  obtain ⟨h1, h2, h3⟩ := dig_all h
  have e0 : cs ("0" : Str) = [48] := by decide +kernel
  constructor
  · intro hv
    unfold digB at h
    simp only [Bool.and_eq_true, decide_eq_true_eq] at h
    obtain ⟨_, _, _, h4⟩ := h
    cases hc : cs s with
    | nil => exact absurd hc h2
    | cons c r =>
      rw [hc] at hv h4
      have hc1 : 48 ≤ c ∧ c ≤ 57 := h1 c (by rw [hc]; exact List.mem_cons_self ..)
      unfold digitsVal at hv
      rw [List.foldl_cons] at hv
      have := dv_ge r (0 * 10 + (c - 48))
      have e : c = 48 := by omega
      subst e
      simp at h4
      exact h4
  · intro e
    rw [e, e0]
    rfl
def rd (s : Str) : Option Int := if (cs s).head? = some 45 then (match num (cutS s (some 1) none) with
  | some n => if n = 0 then none else some (-n)
  | none => none) else num s
theorem num_minus {s : Str} (h : (cs s).head? = some 45) : num s = none := by
  unfold num
  have : digB s = false := by
    cases e : digB s with
    | false => rfl
    | true =>
      obtain ⟨h1, h2, h3⟩ := dig_all e
      cases hc : cs s with
      | nil => exact absurd hc h2
      | cons c r =>
        rw [hc] at h
        have e2 : c = 45 := by simpa using h
        have := h1 c (by rw [hc]; exact List.mem_cons_self ..)
        omega
  rw [this]
  rfl
theorem tail1 (s : Str) : cs (cutS s (some 1) none) = (cs s).drop 1 := cut_from s 1
theorem head1 (s : Str) : cs (cutS s none (some 1)) = (cs s).take 1 := cut_to s 1
theorem head1_eq (s : Str) (c : Nat) : (cutS s none (some 1) = ⟨#[c]⟩) ↔ (cs s).head? = some c := by
  constructor
  · intro h
    have e := congrArg cs h
    rw [head1] at e
    cases hc : cs s with
    | nil => rw [hc] at e; cases e
    | cons d r =>
      rw [hc] at e
      have e2 : [d] = [c] := e
      rw [List.head?_cons, (List.cons.inj e2).1]
  · intro h
    refine cs_inj ?_
    rw [head1]
    cases hc : cs s with
    | nil => rw [hc] at h; cases h
    | cons d r =>
      rw [hc] at h
      have e2 : d = c := Option.some.inj h
      rw [e2]
      rfl
theorem minus0 {s : Str} (h : (cs s).head? = some 45) : s = "-0" ↔ cutS s (some 1) none = "0" := by
  have e1 : cs ("-0" : Str) = [45, 48] := by decide +kernel
  have e2 : cs ("0" : Str) = [48] := by decide +kernel
  constructor
  · intro e
    refine cs_inj ?_
    rw [tail1, e, e1, e2]
    rfl
  · intro e
    have q := congrArg cs e
    rw [tail1, e2] at q
    refine cs_inj ?_
    rw [e1]
    cases hc : cs s with
    | nil => rw [hc] at h; cases h
    | cons d r =>
      rw [hc] at h q
      have : d = 45 := by simpa using h
      rw [this]
      simpa using q
theorem rd_eq {s : Str} (h : (cs s).head? = some 45) : rd s = if s = "-0" then none else if digB (cutS s (some 1) none) = true then some (0 - ((digitsVal (cs (cutS s (some 1) none)) : Nat) : Int)) else none := by
  unfold rd
  rw [if_pos h]
  unfold num
  by_cases hd : digB (cutS s (some 1) none) = true
  · rw [if_pos hd, if_pos hd]
    have hz := dig_zero hd
    rw [← minus0 h] at hz
    by_cases h0 : s = "-0"
    · rw [if_pos h0]
      have := hz.mpr h0
      simp [this]
    · rw [if_neg h0]
      have : digitsVal (cs (cutS s (some 1) none)) ≠ 0 := fun q => h0 (hz.mp q)
      simp [this]
  · rw [if_neg hd, if_neg hd]
    show none = _
    split <;> rfl
def Pk : PyData → Nat → Prop
  | .list ds, m => m = ds.length ∧ 1 ≤ m ∧ m ≤ 100000
  | .str s, m => m = s.length ∧ 1 ≤ m ∧ m ≤ 100000
  | _, _ => False
def Pd : PyData → PyData → Prop
  | .list ds, d => d ∈ ds
  | .str s, d => ∃ x, x ∈ cs s ∧ d = .str ⟨#[x]⟩
  | _, _ => False

/-! ## ranges -/
abbrev Rg := Option Int × Option Int
@[reducible] def rgD (r : Rg) : PyData := .tuple [oi r.1, oi r.2]
def wf (r : Rg) : Bool := r.1.isSome || r.2.isSome
def rngP (p : Str × Str × Str) : Option Rg :=
  if p.2.1 = "" then none
  else if p.1 = "" then (match num p.2.2 with
    | none => none
    | some l => some (none, some l))
  else match num p.1 with
    | none => none
    | some f => if p.2.2 = "" then some (some f, none) else match num p.2.2 with
      | none => none
      | some l => if l < f then none else some (some f, some l)
def rng (x : Str) : Option Rg := rngP (Txt.partition x "-")
theorem cutD_to (ds : List PyData) (k : Nat) : cutD ds none (some (k : Int)) = ds.take k := by
  unfold cutD
  rw [HT.sIx_nat]
  show ((ds.drop 0).take (min k ds.length - 0)) = _
  rw [List.drop_zero, Nat.sub_zero]
  by_cases h : k ≤ ds.length
  · rw [Nat.min_eq_left h]
  · rw [Nat.min_eq_right (by omega), List.take_of_length_le (Nat.le_refl _), List.take_of_length_le (by omega)]
theorem part_len1 (x : Str) (c : Nat) : (Txt.partition x ⟨#[c]⟩).1.length ≤ x.length := by
  rcases cut_at x c with h | ⟨a, b, rfl, h⟩
  · rw [part_no h]
    exact Nat.le_refl _
  · rw [part_yes h, len_app, len_app]
    show a.length ≤ _
    omega
theorem part_len2 (x : Str) (c : Nat) : (Txt.partition x ⟨#[c]⟩).2.2.length ≤ x.length := by
  rcases cut_at x c with h | ⟨a, b, rfl, h⟩
  · rw [part_no h]
    exact Nat.zero_le _
  · rw [part_yes h, len_app, len_app]
    show b.length ≤ _
    omega
theorem num_nil : num "" = none := by decide +kernel
theorem rng_wf {x : Str} {r : Rg} (h : rng x = some r) : wf r = true := by
  unfold rng rngP at h
  repeat' split at h
  all_goals first
    | (cases h; done)
    | (cases h; rfl)
theorem find_digit (c : Nat) : Txt.find DIGITS ⟨#[c]⟩ = if c ∈ cs DIGITS then ((c - 48 : Nat) : Int) else -1 := by
  by_cases h : c < 58
  · have all : ∀ c, c < 58 → Txt.find DIGITS ⟨#[c]⟩ = if c ∈ cs DIGITS then ((c - 48 : Nat) : Int) else -1 := by decide +kernel
    exact all c h
  · have hm : c ∉ cs DIGITS := by
      rw [digits_cs]
      intro q
      simp only [List.mem_cons, List.not_mem_nil, or_false] at q
      omega
    rw [if_neg hm]
    exact find_no hm
theorem dv_snoc (l : List Nat) (c : Nat) : digitsVal (l ++ [c]) = digitsVal l * 10 + (c - 48) := by
  unfold digitsVal
  rw [List.foldl_append]
  rfl
theorem num_bad {x : Str} {c : Nat} (h : c ∈ cs x) (hc : c ∉ cs DIGITS) : num x = none := by
  unfold num
  rw [if_neg]
  intro q
  obtain ⟨h1, _, _⟩ := dig_all q
  have := h1 c h
  apply hc
  rw [digits_cs]
  simp only [List.mem_cons, List.not_mem_nil, or_false]
  omega
theorem num_good {x : Str} (h1 : 1 ≤ x.length) (h2 : x.length ≤ 6) (h0 : ¬ (1 < x.length ∧ (cs x).head? = some 48)) (h : ∀ c ∈ cs x, c ∈ cs DIGITS) : num x = some ((digitsVal (cs x) : Nat) : Int) := by
  unfold num
  rw [if_pos]
  unfold digB allIn
  have l := len_cs x
  have a1 : decide (1 ≤ (cs x).length) = true := decide_eq_true (by omega)
  have a2 : decide ((cs x).length ≤ 6) = true := decide_eq_true (by omega)
  have a3 : ((cs x).all fun c => decide (c ∈ cs DIGITS)) = true := List.all_eq_true.mpr fun c hc => decide_eq_true (h c hc)
  rw [a1, a2, a3]
  by_cases hh : (cs x).head? = some 48
  · have hx : x = "0" := by
      refine cs_inj ?_
      have e1 : cs ("0" : Str) = [48] := by decide +kernel
      rw [e1]
      have : ¬ 1 < x.length := fun q => h0 ⟨q, hh⟩
      cases hc : cs x with
      | nil => rw [hc] at hh; cases hh
      | cons c r =>
        rw [hc] at hh l
        have : r = [] := List.eq_nil_of_length_eq_zero (by simp at l; omega)
        rw [this, Option.some.inj hh]
    rw [decide_eq_true hx]
    simp
  · rw [decide_eq_false hh]
    simp
theorem num_zero {x : Str} (h1 : 1 < x.length) (h : (cs x).head? = some 48) : num x = none := by
  unfold num
  rw [if_neg]
  unfold digB
  have hx : ¬ x = "0" := by
    intro q
    rw [q] at h1
    exact absurd h1 (by decide +kernel)
  rw [h, decide_eq_false hx]
  simp
theorem num_long {x : Str} (h : x.length < 1 ∨ 6 < x.length) : num x = none := by
  unfold num
  rw [if_neg]
  unfold digB
  have l := len_cs x
  rcases h with h | h
  · rw [decide_eq_false (show ¬ 1 ≤ (cs x).length by omega)]
    simp
  · rw [decide_eq_false (show ¬ (cs x).length ≤ 6 by omega)]
    simp
def allSome {α : Type} : List (Option α) → Option (List α)
  | [] => some []
  | none :: _ => none
  | some x :: r => (allSome r).map (x :: ·)
def rngs (x : Str) : Option (List Rg) := if 1 ≤ (wordsS x).length ∧ (wordsS x).length ≤ 20 then allSome ((wordsS x).map rng) else none
@[reducible] def orD : Option Rg → PyData
  | none => .none
  | some r => rgD r
@[reducible] def orsD : Option (List Rg) → PyData
  | none => .none
  | some rs => .list (rs.map rgD)
@[reducible] def prD (r : Int × Int) : PyData := .tuple [.int r.1, .int r.2]
def res1 (n : Int) (r : Rg) : List (Int × Int) :=
  let a := match r.1 with | none => max (n - r.2.getD 0) 0 | some f => f
  let e := match r.1, r.2 with | some _, some l => min (l + 1) n | _, _ => n
  if a < e then [(a, e)] else []
theorem words_len {s x : Str} (h : x ∈ wordsS s) : x.length ≤ s.length := by
  rw [← split_words, List.mem_flatMap] at h
  obtain ⟨p, hp, h⟩ := h
  rw [finish_str] at h
  split at h
  · cases h
  · rw [List.mem_singleton] at h
    rw [h]
    exact Nat.le_trans (strip_len _ _) (piece_len (by decide) hp)
theorem words_num (s : Str) : (wordsS s).length ≤ s.length + 1 := by
  unfold wordsS wordsL
  have h : ∀ l : List (List Nat), (l.flatMap finish).length ≤ l.length := by
    intro l
    induction l with
    | nil => exact Nat.le_refl _
    | cons q l ih =>
      have := finish_len q
      rw [List.flatMap_cons, List.length_append, List.length_cons]
      omega
  exact Nat.le_trans (h _) (Nat.le_trans (spl1_len _ _) (by rw [len_cs]; exact Nat.le_refl _))
theorem allSome_map {α β : Type} (f : α → Option β) (xs : List α) : allSome (xs.map f) = if (xs.all fun x => (f x).isSome) = true then some (xs.filterMap f) else none := by
  induction xs with
  | nil => rfl
  | cons x xs ih =>
    rw [List.map_cons, List.all_cons, List.filterMap_cons]
    cases e : f x with
    | none => rfl
    | some y =>
      show (allSome (xs.map f)).map (y :: ·) = _
      rw [ih]
      simp only [Option.isSome_some, Bool.true_and]
      split <;> rfl
theorem allSome_len {α : Type} : ∀ {l : List (Option α)} {fs : List α}, allSome l = some fs → fs.length = l.length
  | [], fs, h => by cases h; rfl
  | none :: _, fs, h => by cases h
  | some x :: r, fs, h => by
    have h' : (allSome r).map (x :: ·) = some fs := h
    cases e : allSome r with
    | none => rw [e] at h'; cases h'
    | some gs =>
      rw [e] at h'
      cases h'
      rw [List.length_cons, List.length_cons, allSome_len e]
theorem allSome_snoc {α : Type} {v : α} : ∀ {l : List (Option α)} {fs : List α}, allSome l = some fs → allSome (l ++ [some v]) = some (fs ++ [v])
  | [], fs, h => by cases h; rfl
  | none :: _, fs, h => by cases h
  | some x :: r, fs, h => by
    have h' : (allSome r).map (x :: ·) = some fs := h
    cases e : allSome r with
    | none => rw [e] at h'; cases h'
    | some gs =>
      rw [e] at h'
      cases h'
      show (allSome (r ++ [some v])).map (x :: ·) = _
      rw [allSome_snoc e]
      rfl
theorem flat_len (l : List Str) : (l.flatMap fun p => finish (cs p)).length ≤ l.length := by
  induction l with
  | nil => exact Nat.le_refl _
  | cons q l ih =>
    have := finish_len (cs q)
    rw [List.flatMap_cons, List.length_append, List.length_cons]
    omega
theorem rngs_none {s x : Str} (h : x ∈ wordsS s) (hn : rng x = none) : rngs s = none := by
  unfold rngs
  rw [allSome_map, if_neg (c := ((wordsS s).all fun x => (rng x).isSome) = true)]
  · split <;> rfl
  · intro q
    have := List.all_eq_true.mp q x h
    rw [hn] at this
    cases this
theorem rngs_some {s : Str} (h1 : 1 ≤ (wordsS s).length) (h2 : (wordsS s).length ≤ 20) : rngs s = allSome ((wordsS s).map rng) := by
  unfold rngs
  rw [if_pos ⟨h1, h2⟩]
theorem rngs_len {s : Str} (h : ¬ (1 ≤ (wordsS s).length ∧ (wordsS s).length ≤ 20)) : rngs s = none := by
  unfold rngs
  rw [if_neg h]
theorem all_map {xs : List Str} (h : (xs.all fun x => (rng x).isSome) = true) : xs.map (fun w => orD (rng w)) = (xs.filterMap rng).map rgD := by
  induction xs with
  | nil => rfl
  | cons x xs ih =>
    rw [List.all_cons, Bool.and_eq_true] at h
    rw [List.map_cons, List.filterMap_cons, ih h.2]
    cases e : rng x with
    | none => rw [e] at h; exact absurd h.1 (by decide)
    | some v => rfl
theorem cut200 (x : Str) : (cutS x none (some 200)).length ≤ 200 := by
  rw [len_cs, show (some (200 : Int)) = some ((200 : Nat) : Int) from rfl, cut_to, List.length_take]
  omega
theorem allSome_wf : ∀ {xs : List Str} {rs : List Rg}, allSome (xs.map rng) = some rs → ∀ r ∈ rs, wf r = true
  | [], rs, h, r, hr => by cases h; cases hr
  | x :: xs, rs, h, r, hr => by
    rw [List.map_cons] at h
    cases e : rng x with
    | none => rw [e] at h; cases h
    | some v =>
      rw [e] at h
      have h' : (allSome (xs.map rng)).map (v :: ·) = some rs := h
      cases e2 : allSome (xs.map rng) with
      | none => rw [e2] at h'; cases h'
      | some gs =>
        rw [e2] at h'
        cases h'
        rcases List.mem_cons.mp hr with rfl | hr
        · exact rng_wf e
        · exact allSome_wf e2 r hr
theorem rngs_facts {x : Str} {rs : List Rg} (h : rngs x = some rs) : 1 ≤ rs.length ∧ rs.length ≤ 20 ∧ ∀ r ∈ rs, wf r = true := by
  unfold rngs at h
  split at h
  · rename_i q
    have := allSome_len h
    rw [List.length_map] at this
    exact ⟨by omega, by omega, allSome_wf h⟩
  · cases h
theorem res_none (n l : Int) : res1 n (none, some l) = if (if 0 > n - l then 0 else n - l) < n then [((if 0 > n - l then 0 else n - l), n)] else [] := by
  have e : max (n - l) 0 = if 0 > n - l then 0 else n - l := by rw [Int.max_def]; split <;> split <;> omega
  show (if max (n - l) 0 < n then [(max (n - l) 0, n)] else []) = _
  rw [e]
theorem res_none2 (n l : Int) : res1 n (none, some l) = if (if n - l > 0 then n - l else 0) < n then [((if n - l > 0 then n - l else 0), n)] else [] := by
  have e : (if n - l > 0 then n - l else 0) = if 0 > n - l then 0 else n - l := by split <;> split <;> omega
  rw [res_none, e]
theorem res_open (n f : Int) : res1 n (some f, none) = if f < n then [(f, n)] else [] := rfl
theorem res_both (n f l : Int) : res1 n (some f, some l) = if f < (if n < l + 1 then n else l + 1) then [(f, if n < l + 1 then n else l + 1)] else [] := by
  have e : min (l + 1) n = if n < l + 1 then n else l + 1 := by rw [Int.min_def]; split <;> split <;> omega
  show (if f < min (l + 1) n then [(f, min (l + 1) n)] else []) = _
  rw [e]
theorem res_bothA {n f l : Int} (h : l < n) : res1 n (some f, some l) = if f < l + 1 then [(f, l + 1)] else [] := by
  have e : (if n < l + 1 then n else l + 1) = l + 1 := if_neg (by omega)
  rw [res_both, e]
theorem res_bothB {n f l : Int} (h : ¬ l < n) : res1 n (some f, some l) = if f < n then [(f, n)] else [] := by
  have e : (if n < l + 1 then n else l + 1) = n := if_pos (by omega)
  rw [res_both, e]
theorem res_len (n : Int) (rs : List Rg) : (rs.flatMap (res1 n)).length ≤ rs.length := by
  induction rs with
  | nil => exact Nat.le_refl _
  | cons r rs ih =>
    have : (res1 n r).length ≤ 1 := by
      have h : ∀ (p : Prop) [Decidable p] (x : Int × Int), (if p then [x] else []).length ≤ 1 := by
        intro p _ x
        split <;> simp
      exact h _ _
    rw [List.flatMap_cons, List.length_append, List.length_cons]
    omega
theorem noObj_rg (r : Rg) : noObj (.tuple [oi r.1, oi r.2]) = true := by
  obtain ⟨_ | _, _ | _⟩ := r <;> rfl

/-! stepping -/
local macro_rules | `(tactic| fail "zlook") => `(tactic| first
  | assumption
  | exact um_same
  | ((rw [um_ne (by first | assumption | (apply Ne.symm; assumption))]); fail "zlook"))
local macro_rules | `(tactic| fail "zs") => `(tactic| first
  | with_reducible assumption
  | omega
  | ((with_reducible show _ = _); rfl)
  | (with_reducible trivial)
  | exact Or.inr ⟨by decide, by decide⟩
  | exact Or.inl ⟨by decide, by decide⟩
  | exact ⟨by decide, by decide, by decide⟩
  | exact ⟨by decide, by decide⟩
  | fail "zlook"
  | (simp only [List.length_map, List.length_append, List.length_cons, List.length_nil, len_app, um_same, sizeLine] at *; first | done | omega))
local macro_rules | `(tactic| fail "zl") => `(tactic| with_reducible refine w_lst ?_)
local macro_rules | `(tactic| fail "zk") => `(tactic| fail "no")
-- operations
local macro_rules | `(tactic| fail "zo") => `(tactic| ((with_reducible show O2 _ _ _ _ _ _); first
  | with_reducible refine o_add ?_
  | with_reducible refine o_addS ?_ ?_
  | with_reducible refine o_cat ?_ ?_
  | with_reducible refine o_sub ?_
  | with_reducible refine o_mulI ?_ ?_
  | with_reducible refine o_mulS ?_ ?_
  | with_reducible refine o_fdiv ?_ ?_
  | with_reducible refine o_mod ?_ ?_
  | with_reducible refine o_pow ?_ ?_
  | with_reducible refine o_lt ?_
  | with_reducible refine o_le ?_
  | with_reducible refine o_gt ?_
  | with_reducible refine o_ge ?_
  | with_reducible refine o_ltS ?_
  | with_reducible refine o_leS ?_
  | with_reducible refine o_gtS ?_
  | with_reducible refine o_eq ?_
  | with_reducible refine o_ne ?_
  | with_reducible refine o_eqT ?_
  | with_reducible refine o_neT ?_
  | with_reducible refine o_eqB ?_
  | with_reducible refine o_isN ?_
  | with_reducible refine o_notN ?_
  | with_reducible refine o_inC ?_
  | with_reducible refine o_notInC ?_
  | with_reducible refine o_ixS ?_ ?_ ?_
  | ((with_reducible refine o_ixL (d := ?d) ?h ?_); (case h => first | (with_reducible assumption) | rfl))
  | ((with_reducible refine o_ixT (d := ?d) ?h ?_); (case h => first | (with_reducible assumption) | rfl))
  | ((with_reducible refine o_ixW (d := ?d) ?h ?_); (case h => first | (with_reducible assumption) | rfl))
  | ((with_reducible refine o_ixM (es := ?es) (d := ?dd) ?hm ?hx ?_); (case hm => fail "zlook"); (case hx => rfl))))
local macro_rules | `(tactic| fail "znob") => `(tactic| first
  | rfl
  | exact noObj_strs _
  | exact noObj_map _ _ (by intro x; (try rcases x with ⟨_ | _, _ | _⟩) <;> rfl))
-- built-ins
local macro_rules | `(tactic| fail "zn") => `(tactic| ((with_reducible show ON _ _ _ _ _); first
  | with_reducible refine n_lenS ?_ ?_
  | with_reducible refine n_lenL ?_
  | with_reducible refine n_lenT ?_
  | with_reducible refine n_lenW ?_
  | ((with_reducible refine n_lenM (es := ?es) ?hm ?_); (case hm => fail "zlook"))
  | with_reducible refine n_abs ?_
  | with_reducible refine n_max2 ?_
  | with_reducible refine n_min2 ?_
  | with_reducible refine n_int ?_
  | with_reducible refine n_str ?_ ?_
  | with_reducible refine n_intS ?_ ?_ ?_
  | with_reducible refine n_ord ?_
  | with_reducible refine n_sumW ?_
  | with_reducible refine n_list ?_
  | with_reducible refine n_listW ?_
  | ((with_reducible refine n_isi (b := true) ?h1 ?h2 ?h3 ?_); (case h3 => rfl); (case h2 => simp); (case h1 => fail "znob"))
  | ((with_reducible refine n_isi (b := false) ?h1 ?h2 ?h3 ?_); (case h3 => rfl); (case h2 => simp); (case h1 => fail "znob"))))
-- methods
local macro_rules | `(tactic| fail "zm") => `(tactic| ((with_reducible show OM _ _ _ _ _ _); first
  | with_reducible refine m_startswith ?_
  | with_reducible refine m_endswith ?_
  | with_reducible refine m_find ?_
  | with_reducible refine m_partition ?_ ?_ ?_
  | with_reducible refine m_strip ?_ ?_
  | with_reducible refine m_split ?_ ?_ ?_
  | with_reducible refine m_join ?_ ?_
  | ((with_reducible refine m_joinM (ys := ?ys) ?hm ?_ ?_); (case hm => fail "zlook"))
  | ((with_reducible refine m_append (es := ?es) ?hm ?_ ?_); (case hm => fail "zlook"))))
local macro_rules | `(tactic| fail "zS") => `(tactic| ((with_reducible show Sx _ _ _ _ _); first
  | with_reducible refine s_seq ?_
  | with_reducible refine s_set ?_
  | ((with_reducible refine s_retF (a := ?a) ?h ?_); (case h => rfl))
  | with_reducible refine s_ret ?_
  | with_reducible refine s_retN ?_
  | with_reducible refine s_if ?_
  | with_reducible refine s_drop ?_
  | with_reducible refine s_next ?_
  | with_reducible refine s_break ?_
  | with_reducible refine s_cont ?_
  | with_reducible refine s_asg ?_))
local macro_rules | `(tactic| fail "zW") => `(tactic| ((with_reducible show Wx _ _ _ _ _); first
  | ((with_reducible refine w_var (e := ?e) ?h ?_); (case h => rfl))
  | with_reducible refine w_op ?_
  | with_reducible refine w_int ?_
  | with_reducible refine w_str ?_
  | with_reducible refine w_bl ?_
  | with_reducible refine w_non ?_
  | with_reducible refine w_ty ?_
  | with_reducible refine w_call ?_
  | with_reducible refine w_cb ?_
  | fail "zl"
  | with_reducible refine w_tup ?_
  | with_reducible refine w_m1 ?_
  | with_reducible refine w_bm ?_
  | with_reducible refine w_bm0 ?_
  | with_reducible refine w_slice ?_
  | with_reducible refine w_chain ?_
  | with_reducible refine w_andT ?_
  | with_reducible refine w_orT ?_
  | with_reducible refine w_notT ?_
  | with_reducible refine w_un ?_
  | with_reducible refine w_if ?_
  | with_reducible refine w_callN ?_))
local macro_rules | `(tactic| fail "zT") => `(tactic| first
  | with_reducible refine wa_cons ?_
  | with_reducible refine wa_nil ?_
  | with_reducible refine wt_test ?_
  | with_reducible refine wt_tru ?_
  | with_reducible refine wt_and ?_
  | with_reducible refine wt_or ?_
  | with_reducible refine wt_not ?_
  | with_reducible refine wt_yes ?_
  | with_reducible refine wo_some ?_
  | with_reducible refine wo_none ?_
  | with_reducible refine l_str ?_ ?_
  | with_reducible refine l_list ?_
  | with_reducible refine l_listW ?_
  | with_reducible refine g_name ?_
  | with_reducible refine g_sub ?_
  | with_reducible refine wi_str ?_
  | with_reducible refine wi_list ?_
  | with_reducible refine wi_listW ?_
  | with_reducible refine wi_tup ?_
  | with_reducible refine wi_range1 ?_
  | with_reducible refine wi_range2 ?_
  | ((with_reducible refine g_tup (n := ?n) ?h ?_); (case h => rfl); (try simp only [List.map_cons, List.map_nil]))
  | with_reducible refine gs_cons ?_
  | with_reducible refine gs_nil ?_
  | with_reducible refine o_neg ?_)
local macro_rules | `(tactic| fail "zE") => `(tactic| first
  | with_reducible refine nd_rt ?_
  | with_reducible refine nd_nx ?_
  | with_reducible refine tr_b ?_
  | with_reducible refine tr_i ?_
  | with_reducible refine tr_n ?_
  | with_reducible refine tr_s ?_ ?_
  | with_reducible refine tr_l ?_
  | with_reducible refine tr_t ?_
  | with_reducible refine tr_w ?_
  | ((with_reducible refine tr_r (xs := ?xs) ?hm ?_); (case hm => fail "zlook"))
  | ((with_reducible refine ex_disp (ds := ?ds) ?h ?hl ?_); (case h => rfl); (case hl => rfl))
  | ((with_reducible refine ex_sub (es := ?es) (j := ?j) ?hm ?hj ?_); (case hm => fail "zlook"); (case hj => rfl))
  | ((with_reducible refine ex_kw (args := ?args) ?h1 ?h2 ?h3 ?_); (case h1 => rfl); (case h2 => rfl); (case h3 => (simp only [perm, List.nil_append, List.cons_append, List.filterMap_cons, List.filterMap_nil, List.getElem?_cons_zero, List.getElem?_cons_succ]; rfl)))
  | with_reducible refine ex_s ?_
  | with_reducible refine ty_s ?_
  | with_reducible refine ty_l ?_
  | ((with_reducible refine ty_r (es := ?es) ?hm ?_); (case hm => fail "zlook"))
  | with_reducible refine ex_rg1 ?_ ?_ ?_
  | ((with_reducible refine ex_lm ?hl ?_); (case hl => rfl))
  | with_reducible refine Exists.intro _ (And.intro (Eq.refl _) ?_)
  | ((with_reducible refine And.intro (fun hb => ?_) (fun hb => ?_)) <;> ((try simp only [isN, Bool.not_eq_true', Bool.not_eq_false', decide_eq_true_eq, decide_eq_false_iff_not, Bool.true_eq_false, Bool.false_eq_true, Bool.not_true, Bool.not_false, bne_iff_ne, ne_eq, bne_eq_false_iff_eq, Decidable.not_not] at hb); skip)))
-- one step
local macro_rules | `(tactic| fail "z1") => `(tactic| first
  | fail "zS"
  | fail "zW"
  | fail "zo"
  | fail "zT"
  | fail "zn"
  | fail "zm"
  | fail "zE"
  | fail "zk"
  | with_reducible intro _)
local macro_rules | `(tactic| fail "z") => `(tactic| first
  | (fail "z1" <;> fail "z")
  | (fail "zs"; done)
  | skip)

section
variable {P : Program} {w : World} {K : PySem.W.Frag} {mg : Str → Option Value} {base : Heap}
def c_consists_of : ASp := fun es M Q X => ∃ (text : Str), ∃ (signs : Str), es = [.d (.str text), .d (.str signs)] ∧ (text.length ≤ 100000) ∧ (Q (.d (.bool (allIn text signs))) M)
theorem k_consists_of {text : Str} {signs : Str} {M : Ms} {Q : Ent → Ms → Prop} {X : Xa} (h1 : text.length ≤ 100000) (q : Q (.d (.bool (allIn text signs))) M) : c_consists_of [.d (.str text), .d (.str signs)] M Q X := ⟨text, signs, rfl, h1, q⟩
theorem sc_consists_of : FnScope ["text", "signs", "sign"] ["text", "signs"] (defScope (topS 3)) := ⟨rfl, rfl, rfl, by decide +kernel, rfl, by decide +kernel, by decide +kernel⟩
theorem ca_consists_of (T : Top fa fn K mg) : Ca P w K mg base "consists_of" (topS 3) 1 ["text", "signs"] c_consists_of := by
  have sc := sc_consists_of
  refine ca_of T 0 1 rfl rfl (fun _ _ _ _ _ _ us hl => match us, hl with | [_, _], _ => rfl) fun fd F => fn_ok F sc (fun es M Q X h => ?_) fun cdv A outer s H E hr => ⟨_, (pss_one (ps_ret (pe_callB (kAll (K := K) rfl rfl) (by rfl) (T.free 0 rfl) (by decide +kernel) (pa_cons (pe_lc (own := [("sign", 2)]) (g := (gName 2)) (tt := tYes) rfl sc.nd (pi_str (pv 0)) (blkOk_by (own := [("sign", 2)]) (N := ["text", "signs", "sign"]) (sc := defScope (topS 3)) (by decide +kernel)) (fun _ _ _ _ _ => (pg_name (i := 2) sc.nd rfl (Or.inl rfl))) (fun _ _ _ _ _ => pts_nil) (fun _ _ _ _ _ => (pe_cmpR (kIn (K := K) rfl) (pv 2) (pv 1) (by rfl)))) pa_nil)))), fun es M Q X h => ?_⟩
  · obtain ⟨text, signs, rfl, h1, k⟩ := h
    rfl
  · obtain ⟨text, signs, rfl, h1, k⟩ := h
    try simp only [cx_K, cx_Kx]
    fail "z"
    refine w_lcf (cs text) (fun c => Ent.d (.str ⟨#[c]⟩)) (fun _ => true) (fun c => .bool (decide (c ∈ cs signs))) (wp_name (by simp)) ?_
    fail "z"
    refine ⟨sg_map text, rfl, by rw [← len_cs]; exact Nat.le_trans h1 (by decide), trivial, fun x _ => ?_, ?_⟩
    · fail "z"
      refine ⟨rfl, fun B b => ?_, fun _ R r => ?_⟩
      · fail "z"
      · fail "z"
    · fail "z"
      rw [List.filter_eq_self.mpr (fun _ _ => rfl)]
      have e : (cs text).map (fun c => PyData.bool (decide (c ∈ cs signs))) = ((cs text).map fun c => decide (c ∈ cs signs)).map PyData.bool := by rw [List.map_map]; rfl
      rw [e]
      refine n_all ?_
      refine q_of k ?_ rfl
      rw [List.all_map]
      rfl
local macro_rules | `(tactic| fail "zk") => `(tactic| ((with_reducible refine k_consists_of  ?_ ?_)))
local macro_rules | `(tactic| fail "zl") => `(tactic| with_reducible refine w_lstM ?_)
def c_list_elements : ASp := fun es M Q X => ∃ (text : Str), es = [.d (.str text)] ∧ (text.length ≤ 100000) ∧ (Q (.d (.list ((wordsS text).map PyData.str))) M)
theorem k_list_elements {text : Str} {M : Ms} {Q : Ent → Ms → Prop} {X : Xa} (h1 : text.length ≤ 100000) (q : Q (.d (.list ((wordsS text).map PyData.str))) M) : c_list_elements [.d (.str text)] M Q X := ⟨text, rfl, h1, q⟩
theorem sc_list_elements : FnScope ["text", "elements_found", "part_text", "element"] ["text"] (defScope (topS 4)) := ⟨rfl, rfl, rfl, by decide +kernel, rfl, by decide +kernel, by decide +kernel⟩
theorem ca_list_elements (T : Top fa fn K mg) : Ca P w K mg base "list_elements" (topS 4) 1 ["text"] c_list_elements := by
  have sc := sc_list_elements
  refine ca_of T 1 2 rfl rfl (fun _ _ _ _ _ _ us hl => match us, hl with | [_], _ => rfl) fun fd F => fn_ok F sc (fun es M Q X h => ?_) fun cdv A outer s H E hr => ⟨_, (pss_cons (ps_set (i := 1) sc.nd rfl (Or.inl rfl) (pe_lst pa_nil))
      (pss_cons (ps_for PassesOwn.never rfl (ki_list (K := K) rfl (pe_m1 PySem.F.slot_str_split PySem.F.type_str_split mt_split (pv 0) pe_str)) (pg_name (i := 2) sc.nd rfl (Or.inl rfl)) (pss_cons (ps_set (i := 3) sc.nd rfl (Or.inl rfl) (pe_m1 PySem.F.slot_str_strip PySem.F.type_str_strip mt_stripChars (pv 2) pe_str))
      (pss_one (ps_if (pt_cmpR (kNe (K := K) rfl hr.units) (pv 3) pe_str (nomark _)) (pss_one (ps_expr (pe_bm PySem.F.plainAttrs_list PySem.F.slot_list_append PySem.F.type_list_append mt_append (pv 1) (pa_cons (pv 3) pa_nil)))) pss_nil))))
      (pss_one (ps_ret (pv 1))))), fun es M Q X h => ?_⟩
  · obtain ⟨text, rfl, h1, k⟩ := h
    rfl
  · obtain ⟨text, rfl, h1, k⟩ := h
    try simp only [cx_K, cx_Kx]
    fail "z"
    rename_i a ha
    refine s_for ?_
    fail "z"
    refine ⟨fun i Γ' M' => (∃ v1 v2, Γ' = [some (.d (.str text)), some (.r a), v1, v2]) ∧ M' = um M a (.lst ((((Txt.split text ⟨#[44]⟩).take i).flatMap fun p => finish (cs p)).map fun y => Ent.d (.str y))), ⟨⟨_, _, rfl⟩, rfl⟩, fun _ _ _ _ _ => trivial, ?_, ?_⟩
    · rintro i e Γ' M' he ⟨⟨v1, v2, rfl⟩, rfl⟩
      obtain ⟨d, hd, rfl⟩ := map_get he
      obtain ⟨p, hp, rfl⟩ := map_get hd
      have hp' : (Txt.split text ⟨#[44]⟩)[i]? = some p := hp
      have hi := (List.getElem?_eq_some_iff.mp hp').1
      have hl := split1_len (x := text) (s := 44) (by decide)
      have hpl := piece_len (s := 44) (by decide) (List.mem_of_getElem? hp')
      have hfl : ∀ l : List Str, (l.flatMap fun p => finish (cs p)).length ≤ l.length := by
        intro l
        induction l with
        | nil => exact Nat.le_refl _
        | cons q l ih =>
          have := finish_len (cs q)
          rw [List.flatMap_cons, List.length_append, List.length_cons]
          omega
      have hfl' := hfl ((Txt.split text ⟨#[44]⟩).take i)
      rw [List.length_take] at hfl'
      fail "z"
      · rename_i hb
        refine ⟨⟨_, _, rfl⟩, ?_⟩
        rw [um_um, take_succ hp', List.flatMap_append, List.flatMap_cons, List.flatMap_nil, finish_str, if_neg hb]
        try simp
      · rename_i hb
        refine ⟨⟨_, _, rfl⟩, ?_⟩
        rw [take_succ hp', List.flatMap_append, List.flatMap_cons, List.flatMap_nil, finish_str, if_pos hb]
        try simp
    · rintro Γ' M' ⟨⟨v1, v2, rfl⟩, rfl⟩
      rw [List.length_map, List.length_map, show Str.ofString "," = (⟨#[44]⟩ : Str) from rfl, List.take_length, split_words]
      refine s_ret_fz (M0 := M) rfl (ds := (wordsS text).map PyData.str) (um_same.trans (by rw [List.map_map]; rfl)) ha (sameM_um ha) ?_
      exact k
local macro_rules | `(tactic| fail "zl") => `(tactic| with_reducible refine w_lst ?_)
local macro_rules | `(tactic| fail "zk") => `(tactic| ((with_reducible refine k_list_elements  ?_ ?_)))
local macro_rules | `(tactic| fail "zl") => `(tactic| with_reducible refine w_lstM ?_)
def c_resolve : ASp := fun es M Q X => ∃ (rs : List Rg) (n : Int), es = [.d (.list (rs.map rgD)), .d (.int n)] ∧ rs.length ≤ 20 ∧ (∀ r ∈ rs, wf r = true) ∧ Q (.d (.list ((rs.flatMap (res1 n)).map prD))) M
theorem k_resolve {rs : List Rg} {n : Int} {M : Ms} {Q : Ent → Ms → Prop} {X : Xa} (h1 : rs.length ≤ 20) (h2 : ∀ r ∈ rs, wf r = true) (q : Q (.d (.list ((rs.flatMap (res1 n)).map prD))) M) : c_resolve [.d (.list (rs.map rgD)), .d (.int n)] M Q X := ⟨rs, n, rfl, h1, h2, q⟩
theorem sc_resolve : FnScope ["ranges", "length", "pairs", "first", "last", "start", "end"] ["ranges", "length"] (defScope (topS 10)) := ⟨rfl, rfl, rfl, by decide +kernel, rfl, by decide +kernel, by decide +kernel⟩
theorem ca_resolve (T : Top fa fn K mg) : Ca P w K mg base "resolve" (topS 10) 1 ["ranges", "length"] c_resolve := by
  have sc := sc_resolve
  refine ca_of T 2 5 rfl rfl (fun _ _ _ _ _ _ us hl => match us, hl with | [_, _], _ => rfl) fun fd F => fn_ok F sc (fun es M Q X h => ?_) fun cdv A outer s H E hr => ⟨_, (pss_cons (ps_set (i := 2) sc.nd rfl (Or.inl rfl) (pe_lst pa_nil))
      (pss_cons (ps_for PassesOwn.never rfl (ki_list (K := K) rfl (pv 0)) (pg_tup rfl (pgs_cons (pg_name (i := 3) sc.nd rfl (Or.inl rfl)) (pgs_cons (pg_name (i := 4) sc.nd rfl (Or.inl rfl)) pgs_nil))) (pss_cons (ps_set (i := 5) sc.nd rfl (Or.inl rfl) (pv 3))
      (pss_cons (ps_set (i := 6) sc.nd rfl (Or.inl rfl) (pv 1))
      (pss_cons (ps_if (pt_cmpR op_isN1 (pv 3) pe_non (nomark _)) (pss_one (ps_set (i := 5) sc.nd rfl (Or.inl rfl) (pe_callB (call_max2 rfl) (by rfl) (T.free 3 rfl) (by decide +kernel) (pa_cons (pe_op op_sub (pv 1) (pv 4)) (pa_cons pe_int pa_nil))))) (pss_one (ps_if (pt_cmpR op_notN1 (pv 4) pe_non (nomark _)) (pss_one (ps_set (i := 6) sc.nd rfl (Or.inl rfl) (pe_callB (call_min2 rfl) (by rfl) (T.free 4 rfl) (by decide +kernel) (pa_cons (pe_op (kAdd (K := K) rfl) (pv 4) pe_int) (pa_cons (pv 1) pa_nil))))) pss_nil)))
      (pss_one (ps_if (pt_cmpR op_ltU (pv 5) (pv 6) (nomark _)) (pss_one (ps_expr (pe_bm PySem.F.plainAttrs_list PySem.F.slot_list_append PySem.F.type_list_append mt_append (pv 2) (pa_cons (pe_tup (pa_cons (pv 5) (pa_cons (pv 6) pa_nil))) pa_nil)))) pss_nil))))))
      (pss_one (ps_ret (pv 2))))), fun es M Q X h => ?_⟩
  · obtain ⟨rs, n, rfl, h1, h2, k⟩ := h
    rfl
  · obtain ⟨rs, n, rfl, h1, h2, k⟩ := h
    try simp only [cx_K, cx_Kx]
    refine s_wk ?_
    fail "z"
    rename_i a ha
    refine s_for ?_
    fail "z"
    refine ⟨fun i Γ' M' => ∃ (v3 v4 v5 v6 : Option Ent), Γ' = [some (.d (.list (rs.map rgD))), some (.d (.int n)), some (.r a), v3, v4, v5, v6] ∧ M' = um M a (.lst (((rs.take i).flatMap (res1 n)).map fun r => Ent.d (prD r))), ⟨_, _, _, _, rfl, rfl⟩, fun _ _ _ _ _ => trivial, ?_, ?_⟩
    · rintro i e Γ' M' he ⟨v3, v4, v5, v6, rfl, rfl⟩
      obtain ⟨d, hd, rfl⟩ := map_get he
      obtain ⟨r, hr', rfl⟩ := map_get hd
      have hw := h2 r (List.mem_of_getElem? hr')
      have hln : (((rs.take i).flatMap (res1 n)).map fun r => Ent.d (prD r)).length < sizeLine := by
        rw [List.length_map]
        have q1 := res_len n (rs.take i)
        rw [List.length_take] at q1
        exact Nat.lt_of_le_of_lt (show _ ≤ 20 by omega) (by decide)
      obtain ⟨f, l⟩ := r
      cases f with
      | none =>
        cases l with
        | none => exact absurd hw (by decide)
        | some l =>
          fail "z"
          · rename_i hb
            refine ⟨_, _, _, _, rfl, ?_⟩
            rw [um_um, take_succ hr', List.flatMap_append, List.flatMap_cons, List.flatMap_nil, List.append_nil, res_none, if_pos hb, List.map_append]
            rfl
          · rename_i hb
            refine ⟨_, _, _, _, rfl, ?_⟩
            rw [take_succ hr', List.flatMap_append, List.flatMap_cons, List.flatMap_nil, List.append_nil, res_none, if_neg hb, List.append_nil]
      | some f =>
        cases l with
        | none =>
          fail "z"
          · rename_i hb
            refine ⟨_, _, _, _, rfl, ?_⟩
            rw [um_um, take_succ hr', List.flatMap_append, List.flatMap_cons, List.flatMap_nil, List.append_nil, res_open, if_pos hb, List.map_append]
            rfl
          · rename_i hb
            refine ⟨_, _, _, _, rfl, ?_⟩
            rw [take_succ hr', List.flatMap_append, List.flatMap_cons, List.flatMap_nil, List.append_nil, res_open, if_neg hb, List.append_nil]
        | some l =>
          fail "z"
          · rename_i hb
            refine ⟨_, _, _, _, rfl, ?_⟩
            rw [um_um, take_succ hr', List.flatMap_append, List.flatMap_cons, List.flatMap_nil, List.append_nil, res_both, if_pos hb, List.map_append]
            rfl
          · rename_i hb
            refine ⟨_, _, _, _, rfl, ?_⟩
            rw [take_succ hr', List.flatMap_append, List.flatMap_cons, List.flatMap_nil, List.append_nil, res_both, if_neg hb, List.append_nil]
    · rintro Γ' M' ⟨v3, v4, v5, v6, rfl, rfl⟩
      rw [List.length_map, List.length_map, List.take_length]
      fail "z"
      refine ⟨(rs.flatMap (res1 n)).map prD, M, by rw [um_same, List.map_map]; rfl, ha, sameM_um ha, M, SameM.refl M, ?_⟩
      exact k
local macro_rules | `(tactic| fail "zl") => `(tactic| with_reducible refine w_lst ?_)
local macro_rules | `(tactic| fail "zk") => `(tactic| with_reducible refine k_resolve ?_ ?_ ?_)
local macro_rules | `(tactic| fail "zl") => `(tactic| with_reducible refine w_lstM ?_)
def c_l_source : ASp := fun es M Q X => ∃ (ns : List Int), es = [.w (ns.map PyData.int)] ∧ (ns.length ≤ 63) ∧ (∀ a v, M a = none → Q (.r a) (um M a (Bg ns 0 0 0 v)))
theorem k_l_source {ns : List Int} {M : Ms} {Q : Ent → Ms → Prop} {X : Xa} (h1 : ns.length ≤ 63) (q : ∀ a v, M a = none → Q (.r a) (um M a (Bg ns 0 0 0 v))) : c_l_source [.w (ns.map PyData.int)] M Q X := ⟨ns, rfl, h1, q⟩
theorem sc_l_source : FnScope ["_law_script", "_law_seed", "_law_cell"] ["_law_script"] (defScope (topS 12)) := ⟨rfl, rfl, rfl, by decide +kernel, rfl, by decide +kernel, by decide +kernel⟩
theorem ca_l_source (T : Top fa fn K mg) : Ca P w K mg base "_law_source" (topS 12) 1 ["_law_script"] c_l_source := by
  have sc := sc_l_source
  refine ca_of T 3 8 rfl rfl (fun _ _ _ _ _ _ us hl => match us, hl with | [_], _ => rfl) fun fd F => fn_ok F sc (fun es M Q X h => ?_) fun cdv A outer s H E hr => ⟨_, (pss_cons (ps_set (i := 1) sc.nd rfl (Or.inl rfl) pe_int)
      (pss_cons (ps_for PassesOwn.never rfl (ki_list (K := K) rfl (pe_slice (kSl (K := K) rfl) (pv 0) po_none (po_some pe_int))) (pg_name (i := 2) sc.nd rfl (Or.inl rfl)) (pss_one (ps_set (i := 1) sc.nd rfl (Or.inl rfl) (pe_op op_modN (pe_callTy call_intU (by rfl) (T.free 7 rfl) (by decide +kernel) (pa_cons (pe_op (kAdd (K := K) rfl) (pe_op op_mulU (pv 1) pe_int) (pv 2)) pa_nil)) pe_int))))
      (pss_one (ps_ret (pe_lst (pa_cons (pe_callTy (kList (K := K) rfl) (by rfl) (T.free 6 rfl) (by decide +kernel) (pa_cons (pe_slice (kSl (K := K) rfl) (pv 0) po_none (po_some pe_int)) pa_nil)) (pa_cons pe_int (pa_cons pe_int (pa_cons pe_int (pa_cons (pv 1) pa_nil)))))))))), fun es M Q X h => ?_⟩
  · obtain ⟨ns, rfl, h1, k⟩ := h
    rfl
  · obtain ⟨ns, rfl, h1, k⟩ := h
    try simp only [cx_K, cx_Kx]
    have hcut : cutD (ns.map PyData.int) none (some 63) = ns.map PyData.int := by
      rw [show (some (63 : Int)) = some ((63 : Nat) : Int) from rfl, cutD_to, List.take_of_length_le (by rw [List.length_map]; exact h1)]
    fail "z"
    refine s_for ?_
    fail "z"
    rw [hcut]
    refine ⟨fun t Γ' M' => M' = M ∧ ∃ v1 v2, Γ' = [some (.w (ns.map PyData.int)), some (.d (.int v1)), v2], ⟨rfl, _, _, rfl⟩, fun _ _ _ _ _ => trivial, ?_, ?_⟩
    · rintro t e Γ' M' he ⟨rfl, v1, v2, rfl⟩
      obtain ⟨d, hd, rfl⟩ := map_get he
      obtain ⟨x, hx, rfl⟩ := map_get hd
      fail "z"
      exact ⟨rfl, _, _, rfl⟩
    · rintro Γ' M' ⟨rfl, v1, v2, rfl⟩
      fail "z"
      rename_i a ha
      rw [hcut]
      exact k a _ ha
local macro_rules | `(tactic| fail "zl") => `(tactic| with_reducible refine w_lst ?_)
local macro_rules | `(tactic| fail "zk") => `(tactic| ((with_reducible refine k_l_source  ?_ ?_)))
def c_l_mixed : ASp := fun es M Q X => ∃ (cell : Int), ∃ (step : Int), ∃ (limit : Int), es = [.d (.int cell), .d (.int step), .d (.int limit)] ∧ (1 ≤ limit) ∧ (limit ≤ 1000000) ∧ (∀ d, 0 ≤ d → d < limit → Q (.d (.int d)) M)
theorem k_l_mixed {cell : Int} {step : Int} {limit : Int} {M : Ms} {Q : Ent → Ms → Prop} {X : Xa} (h1 : 1 ≤ limit) (h2 : limit ≤ 1000000) (q : ∀ d, 0 ≤ d → d < limit → Q (.d (.int d)) M) : c_l_mixed [.d (.int cell), .d (.int step), .d (.int limit)] M Q X := ⟨cell, step, limit, rfl, h1, h2, q⟩
theorem sc_l_mixed : FnScope ["_law_cell", "_law_step", "_law_limit", "_law_first", "_law_second"] ["_law_cell", "_law_step", "_law_limit"] (defScope (topS 13)) := ⟨rfl, rfl, rfl, by decide +kernel, rfl, by decide +kernel, by decide +kernel⟩
theorem ca_l_mixed (T : Top fa fn K mg) : Ca P w K mg base "_law_mixed" (topS 13) 1 ["_law_cell", "_law_step", "_law_limit"] c_l_mixed := by
  have sc := sc_l_mixed
  refine ca_of T 4 9 rfl rfl (fun _ _ _ _ _ _ us hl => match us, hl with | [_, _, _], _ => rfl) fun fd F => fn_ok F sc (fun es M Q X h => ?_) fun cdv A outer s H E hr => ⟨_, (pss_cons (ps_set (i := 3) sc.nd rfl (Or.inl rfl) (pe_op op_modN (pe_callTy call_intU (by rfl) (T.free 7 rfl) (by decide +kernel) (pa_cons (pe_op (kAdd (K := K) rfl) (pe_op op_mulU (pv 0) pe_int) (pe_op op_mulU (pv 1) pe_int)) pa_nil)) pe_int))
      (pss_cons (ps_set (i := 4) sc.nd rfl (Or.inl rfl) (pe_op op_modN (pe_callTy call_intU (by rfl) (T.free 7 rfl) (by decide +kernel) (pa_cons (pe_op (kAdd (K := K) rfl) (pe_op op_mulU (pe_op op_mulU (pv 3) (pv 3)) (pv 3)) (pv 3)) pa_nil)) pe_int))
      (pss_one (ps_ret (pe_op op_modN (pe_callTy call_intU (by rfl) (T.free 7 rfl) (by decide +kernel) (pa_cons (pe_op op_fdivN (pv 4) pe_int) pa_nil)) (pv 2)))))), fun es M Q X h => ?_⟩
  · obtain ⟨cell, step, limit, rfl, h1, h2, k⟩ := h
    rfl
  · obtain ⟨cell, step, limit, rfl, h1, h2, k⟩ := h
    try simp only [cx_K, cx_Kx]
    fail "z"
    all_goals generalize hx : ((cell * 48271 + step * 11 : Int).fmod 2147483647) = x
    all_goals have b1 : 0 ≤ x := by rw [← hx]; exact fm0 (by decide)
    all_goals have b2 : x < 2147483647 := by rw [← hx]; exact fm1 (by decide)
    · exact Or.inl ⟨by omega, by omega⟩
    · exact Or.inr ⟨by omega, by omega⟩
    · exact k _ (fm0 (by omega)) (fm1 (by omega))
local macro_rules | `(tactic| fail "zk") => `(tactic| ((with_reducible refine k_l_mixed  ?_ ?_ ?_)))
def c_l_integer : ASp := fun es M Q X => ∃ (x : Int), es = [.d (.int x)] ∧ (Q (.d (.bool true)) M)
theorem k_l_integer {x : Int} {M : Ms} {Q : Ent → Ms → Prop} {X : Xa}  (q : Q (.d (.bool true)) M) : c_l_integer [.d (.int x)] M Q X := ⟨x, rfl, q⟩
theorem sc_l_integer : FnScope ["_law_actual"] ["_law_actual"] (defScope (topS 15)) := ⟨rfl, rfl, rfl, by decide +kernel, rfl, by decide +kernel, by decide +kernel⟩
theorem ca_l_integer (T : Top fa fn K mg) : Ca P w K mg base "_law_integer" (topS 15) 1 ["_law_actual"] c_l_integer := by
  have sc := sc_l_integer
  refine ca_of T 5 12 rfl rfl (fun _ _ _ _ _ _ us hl => match us, hl with | [_], _ => rfl) fun fd F => fn_ok F sc (fun es M Q X h => ?_) fun cdv A outer s H E hr => ⟨_, (pss_one (ps_ret (ke_and (K := K) rfl (pe_callB (kIsi (K := K) rfl) (by rfl) (T.free 10 rfl) (by decide +kernel) (pa_cons (pv 0) (pa_cons (pe_bltn (v := .ty "int") (by rfl) (T.free 7 rfl) PyProof.Rows.boot_int rfl) pa_nil))) (pe_one (ke_not (K := K) rfl (pe_callB (kIsi (K := K) rfl) (by rfl) (T.free 10 rfl) (by decide +kernel) (pa_cons (pv 0) (pa_cons (pe_bltn (v := .ty "bool") (by rfl) (T.free 11 rfl) PyProof.Rows.boot_bool rfl) pa_nil)))))))), fun es M Q X h => ?_⟩
  · obtain ⟨x, rfl, k⟩ := h
    rfl
  · obtain ⟨x, rfl, k⟩ := h
    try simp only [cx_K, cx_Kx]
    fail "z"
local macro_rules | `(tactic| fail "zk") => `(tactic| ((with_reducible refine k_l_integer   ?_)))
def c_l_number : ASp := fun es M Q X => ∃ (word : Str), es = [.d (.str word)] ∧ (word.length ≤ 100000) ∧ (Q (.d (oi (num word))) M)
theorem k_l_number {word : Str} {M : Ms} {Q : Ent → Ms → Prop} {X : Xa} (h1 : word.length ≤ 100000) (q : Q (.d (oi (num word))) M) : c_l_number [.d (.str word)] M Q X := ⟨word, rfl, h1, q⟩
theorem sc_l_number : FnScope ["_law_word", "_law_number_here", "_law_char", "_law_digit"] ["_law_word"] (defScope (topS 17)) := ⟨rfl, rfl, rfl, by decide +kernel, rfl, by decide +kernel, by decide +kernel⟩
theorem ca_l_number (T : Top fa fn K mg) : Ca P w K mg base "_law_number" (topS 17) 1 ["_law_word"] c_l_number := by
  have sc := sc_l_number
  refine ca_of T 6 14 rfl rfl (fun _ _ _ _ _ _ us hl => match us, hl with | [_], _ => rfl) fun fd F => fn_ok F sc (fun es M Q X h => ?_) fun cdv A outer s H E hr => ⟨_, (pss_cons (ps_if (PW.pt (pw_or (pt_cmpR op_ltU (pe_callB (kLen (K := K) rfl) (by rfl) (T.free 13 rfl) (by decide +kernel) (pa_cons (pv 0) pa_nil)) pe_int (nomark _)) (pw_or1 (pt_cmpR op_gtU (pe_callB (kLen (K := K) rfl) (by rfl) (T.free 13 rfl) (by decide +kernel) (pa_cons (pv 0) pa_nil)) pe_int (nomark _))))) (pss_one (ps_ret pe_non)) pss_nil)
      (pss_cons (ps_if (PW.pt (pw_and (pt_cmpR op_gtU (pe_callB (kLen (K := K) rfl) (by rfl) (T.free 13 rfl) (by decide +kernel) (pa_cons (pv 0) pa_nil)) pe_int (nomark _)) (pw_and1 (pt_cmpR (kEq (K := K) rfl hr.units) (pe_ix (kIx (K := K) rfl) (pv 0) pe_int (fun _ _ => rfl)) pe_str (nomark _))))) (pss_one (ps_ret pe_non)) pss_nil)
      (pss_cons (ps_set (i := 1) sc.nd rfl (Or.inl rfl) pe_int)
      (pss_cons (ps_for PassesOwn.never rfl (pi_str (pv 0)) (pg_name (i := 2) sc.nd rfl (Or.inl rfl)) (pss_cons (ps_set (i := 3) sc.nd rfl (Or.inl rfl) (pe_m1 PySem.F.slot_str_find PySem.F.type_str_find mt_find pe_str (pv 2)))
      (pss_cons (ps_if (pt_cmpR op_ltU (pv 3) pe_int (nomark _)) (pss_one (ps_ret pe_non)) pss_nil)
      (pss_one (ps_set (i := 1) sc.nd rfl (Or.inl rfl) (pe_op (kAdd (K := K) rfl) (pe_op op_mulU (pv 1) pe_int) (pv 3)))))))
      (pss_one (ps_ret (pv 1))))))), fun es M Q X h => ?_⟩
  · obtain ⟨word, rfl, h1, k⟩ := h
    rfl
  · obtain ⟨word, rfl, h1, k⟩ := h
    try simp only [cx_K, cx_Kx]
    have l := len_cs word
    cases hcs : cs word with
    | nil =>
      have h0 : word.length = 0 := by rw [l, hcs]; rfl
      fail "z"
      all_goals first
        | (exfalso; omega)
        | (refine q_of k ?_ rfl; rw [num_long (.inl (by omega))])
    | cons c0 r0 =>
      have hl : word.length = r0.length + 1 := by rw [l, hcs]; rfl
      fail "z"
      · refine q_of k ?_ rfl
        rw [num_long (.inr (by omega))]
      · rename_i hb1 hb2 hb3
        refine o_ixS (c := c0) (by rw [sizeLine]; omega) (atI_nat' (by decide) (by show (cs word)[0]? = _; rw [hcs]; rfl)) ?_
        have e9 : (({ cps := #[c0] } : Str) = Str.ofString "0") ↔ c0 = 48 := str_one_inj (d := 48)
        have hh : (cs word).head? = some c0 := by rw [hcs]; rfl
        fail "z"
        · rename_i hb4
          refine q_of k ?_ rfl
          rw [num_zero (by omega) (by rw [hh, e9.mp hb4])]
        · rename_i hb4
          have hn : ¬ (1 < word.length ∧ (cs word).head? = some 48) := fun q => hb4 (e9.mpr (by rw [hh] at q; exact Option.some.inj q.2))
          refine s_for ?_
          fail "z"
          refine ⟨fun t Γ' M' => M' = M ∧ (∃ v1 v2, Γ' = [some (.d (.str word)), some (.d (.int (digitsVal ((cs word).take t) : Nat))), v1, v2]) ∧ ∀ c ∈ (cs word).take t, c ∈ cs DIGITS, ⟨rfl, ⟨_, _, rfl⟩, by simp⟩, fun _ _ _ _ _ => trivial, ?_, ?_⟩
          · rintro i e Γ' M' he ⟨rfl, ⟨v1, v2, rfl⟩, hall⟩
            obtain ⟨c, hc, rfl⟩ := sgE_get he
            have hf := find_digit c
            fail "z"
            · rename_i hb
              refine q_of k ?_ rfl
              rw [num_bad (List.mem_of_getElem? hc) (by intro q; rw [if_pos q] at hf; rw [hf] at hb; omega)]
            · rename_i hb
              have hd : c ∈ cs DIGITS := by
                by_cases q : c ∈ cs DIGITS
                · exact q
                · rw [if_neg q] at hf
                  rw [hf] at hb
                  exact absurd (by decide) hb
              rw [if_pos hd] at hf
              refine ⟨rfl, ⟨some (.d (.str ⟨#[c]⟩)), some (.d (.int (Txt.find DIGITS ⟨#[c]⟩))), ?_⟩, ?_⟩
              · rw [take_succ hc, dv_snoc, Int.natCast_add, Int.natCast_mul, ← hf]
                rfl
              · rw [take_succ hc]
                intro d hd'
                rcases List.mem_append.mp hd' with hd' | hd'
                · exact hall d hd'
                · rw [List.mem_singleton] at hd'
                  rw [hd']
                  exact hd
          · rintro Γ' M' ⟨rfl, ⟨v1, v2, rfl⟩, hall⟩
            rw [sgE_len, len_cs, List.take_length] at hall
            rw [sgE_len, len_cs, List.take_length]
            fail "z"
            refine q_of k ?_ rfl
            rw [num_good (by omega) (by omega) hn hall]
      · rename_i hb1 hb2 hb3 hb4
        have hn : ¬ (1 < word.length ∧ (cs word).head? = some 48) := fun q => hb3 (by omega)
        refine s_for ?_
        fail "z"
        refine ⟨fun t Γ' M' => M' = M ∧ (∃ v1 v2, Γ' = [some (.d (.str word)), some (.d (.int (digitsVal ((cs word).take t) : Nat))), v1, v2]) ∧ ∀ c ∈ (cs word).take t, c ∈ cs DIGITS, ⟨rfl, ⟨_, _, rfl⟩, by simp⟩, fun _ _ _ _ _ => trivial, ?_, ?_⟩
        · rintro i e Γ' M' he ⟨rfl, ⟨v1, v2, rfl⟩, hall⟩
          obtain ⟨c, hc, rfl⟩ := sgE_get he
          have hf := find_digit c
          fail "z"
          · rename_i hb
            refine q_of k ?_ rfl
            rw [num_bad (List.mem_of_getElem? hc) (by intro q; rw [if_pos q] at hf; rw [hf] at hb; omega)]
          · rename_i hb
            have hd : c ∈ cs DIGITS := by
              by_cases q : c ∈ cs DIGITS
              · exact q
              · rw [if_neg q] at hf
                rw [hf] at hb
                exact absurd (by decide) hb
            rw [if_pos hd] at hf
            refine ⟨rfl, ⟨some (.d (.str ⟨#[c]⟩)), some (.d (.int (Txt.find DIGITS ⟨#[c]⟩))), ?_⟩, ?_⟩
            · rw [take_succ hc, dv_snoc, Int.natCast_add, Int.natCast_mul, ← hf]
              rfl
            · rw [take_succ hc]
              intro d hd'
              rcases List.mem_append.mp hd' with hd' | hd'
              · exact hall d hd'
              · rw [List.mem_singleton] at hd'
                rw [hd']
                exact hd
        · rintro Γ' M' ⟨rfl, ⟨v1, v2, rfl⟩, hall⟩
          rw [sgE_len, len_cs, List.take_length] at hall
          rw [sgE_len, len_cs, List.take_length]
          fail "z"
          refine q_of k ?_ rfl
          rw [num_good (by omega) (by omega) hn hall]
      all_goals (exfalso; omega)
theorem kk_l_number {text : Str} {M : Ms} {Q : Ent → Ms → Prop} {X : Xa} (h : text.length ≤ 100000) (q1 : num text = none → Q (.d .none) M) (q2 : ∀ v, num text = some v → Q (.d (.int v)) M) : c_l_number [.d (.str text)] M Q X := by
  refine k_l_number h ?_
  cases e : num text with
  | none => exact q1 e
  | some v => exact q2 v e
local macro_rules | `(tactic| fail "zk") => `(tactic| with_reducible refine kk_l_number ?_ ?_ ?_)
def c_l_odd : ASp := fun es M Q X => ∃ (x : Str), ∃ (y : Str), ∃ (form : Int), es = [.d (.str x), .d (.str y), .d (.int form)] ∧ (x.length ≤ 7) ∧ (y.length ≤ 7) ∧ (0 ≤ form) ∧ (form < 24) ∧ (∀ s : Str, s.length ≤ 30 → Q (.d (.str s)) M)
theorem k_l_odd {x : Str} {y : Str} {form : Int} {M : Ms} {Q : Ent → Ms → Prop} {X : Xa} (h1 : x.length ≤ 7) (h2 : y.length ≤ 7) (h3 : 0 ≤ form) (h4 : form < 24) (q : ∀ s : Str, s.length ≤ 30 → Q (.d (.str s)) M) : c_l_odd [.d (.str x), .d (.str y), .d (.int form)] M Q X := ⟨x, y, form, rfl, h1, h2, h3, h4, q⟩
theorem sc_l_odd : FnScope ["_law_first", "_law_last", "_law_form"] ["_law_first", "_law_last", "_law_form"] (defScope (topS 20)) := ⟨rfl, rfl, rfl, by decide +kernel, rfl, by decide +kernel, by decide +kernel⟩
theorem ca_l_odd (T : Top fa fn K mg) : Ca P w K mg base "_law_odd" (topS 20) 1 ["_law_first", "_law_last", "_law_form"] c_l_odd := by
  have sc := sc_l_odd
  refine ca_of T 7 15 rfl rfl (fun _ _ _ _ _ _ us hl => match us, hl with | [_, _, _], _ => rfl) fun fd F => fn_ok F sc (fun es M Q X h => ?_) fun cdv A outer s H E hr => ⟨_, (pss_one (ps_ret (pe_ix (kIx (K := K) rfl) (pe_lst (pa_cons (pv 0) (pa_cons (pe_op (kAdd (K := K) rfl) (pe_op (kAdd (K := K) rfl) (pv 0) pe_str) (pv 1)) (pa_cons (pe_op (kAdd (K := K) rfl) (pe_op (kAdd (K := K) rfl) (pe_op (kAdd (K := K) rfl) (pv 0) pe_str) (pv 1)) pe_str) (pa_cons (pe_op (kAdd (K := K) rfl) pe_str (pv 1)) (pa_cons pe_str (pa_cons (pe_op (kAdd (K := K) rfl) (pe_op (kAdd (K := K) rfl) (pv 0) pe_str) (pv 1)) (pa_cons (pe_op (kAdd (K := K) rfl) (pe_op (kAdd (K := K) rfl) (pv 0) pe_str) (pv 1)) (pa_cons (pe_op (kAdd (K := K) rfl) (pe_op (kAdd (K := K) rfl) pe_str (pv 0)) pe_str) (pa_cons (pe_op (kAdd (K := K) rfl) pe_str (pv 1)) (pa_cons (pe_op (kAdd (K := K) rfl) (pe_op (kAdd (K := K) rfl) (pv 0) pe_str) (pv 1)) (pa_cons (pe_op (kAdd (K := K) rfl) (pe_op (kAdd (K := K) rfl) (pe_op (kAdd (K := K) rfl) pe_str (pv 0)) pe_str) (pv 1)) (pa_cons (pe_op (kAdd (K := K) rfl) (pe_op (kAdd (K := K) rfl) (pv 0) pe_str) (pv 1)) (pa_cons pe_str (pa_cons pe_str (pa_cons (pe_op (kAdd (K := K) rfl) (pv 0) pe_str) (pa_cons (pe_op (kAdd (K := K) rfl) (pe_op (kAdd (K := K) rfl) (pe_op (kAdd (K := K) rfl) pe_str (pv 0)) pe_str) (pv 1)) (pa_cons (pe_op (kAdd (K := K) rfl) (pe_op (kAdd (K := K) rfl) (pe_op (kAdd (K := K) rfl) (pv 0) pe_str) (pv 1)) pe_str) (pa_cons (pe_op (kAdd (K := K) rfl) (pe_op (kAdd (K := K) rfl) (pv 0) pe_str) (pv 1)) (pa_cons pe_str (pa_cons (pe_op (kAdd (K := K) rfl) (pv 0) pe_str) (pa_cons (pe_op (kAdd (K := K) rfl) (pe_op (kAdd (K := K) rfl) (pv 0) pe_str) (pv 1)) (pa_cons (pe_op (kAdd (K := K) rfl) pe_str (pv 1)) (pa_cons (pe_op (kAdd (K := K) rfl) (pe_op (kAdd (K := K) rfl) (pv 0) pe_str) (pv 1)) (pa_cons pe_str pa_nil))))))))))))))))))))))))) (pv 2) (fun _ _ => rfl)))), fun es M Q X h => ?_⟩
  · obtain ⟨x, y, form, rfl, h1, h2, h3, h4, k⟩ := h
    rfl
  · obtain ⟨x, y, form, rfl, h1, h2, h3, h4, k⟩ := h
    try simp only [cx_K, cx_Kx]
    have zl0 : (Str.ofString "-").length = 1 := by decide +kernel
    have zl1 : (Str.ofString "1000000-").length = 8 := by decide +kernel
    have zl2 : (Str.ofString "-1000000").length = 8 := by decide +kernel
    have zl3 : (Str.ofString "*").length = 1 := by decide +kernel
    have zl4 : (Str.ofString "one-two").length = 7 := by decide +kernel
    have zl5 : (Str.ofString "--").length = 2 := by decide +kernel
    have zl6 : (Str.ofString "-0").length = 2 := by decide +kernel
    have zl7 : (Str.ofString "x").length = 1 := by decide +kernel
    have zl8 : (Str.ofString "-*").length = 2 := by decide +kernel
    have zl9 : (Str.ofString "- ").length = 2 := by decide +kernel
    have zl10 : (Str.ofString " -").length = 2 := by decide +kernel
    have zl11 : (Str.ofString "0").length = 1 := by decide +kernel
    have zl12 : (Str.ofString "-+").length = 2 := by decide +kernel
    have zl13 : (Str.ofString ";").length = 1 := by decide +kernel
    have zl14 : (Str.ofString ".").length = 1 := by decide +kernel
    have zl15 : (Str.ofString "_").length = 1 := by decide +kernel
    have zl16 : (Str.ofString "+").length = 1 := by decide +kernel
    fail "z"
    refine o_ixTs (n := 30) rfl h3 (by exact h4) ?_ (fun s _ hs => ?_)
    · simp only [List.forall_mem_cons, len_app, List.not_mem_nil, false_implies, implies_true, and_true]
      omega
    · fail "z"
      exact k s hs
local macro_rules | `(tactic| fail "zk") => `(tactic| ((with_reducible refine k_l_odd  ?_ ?_ ?_ ?_ ?_)))
local macro_rules | `(tactic| fail "zl") => `(tactic| with_reducible refine w_lstM ?_)
def c_l_resolved : ASp := fun es M Q X => ∃ (rs : List Rg) (n : Int), es = [.d (.list (rs.map rgD)), .d (.int n)] ∧ rs.length ≤ 20 ∧ (∀ r ∈ rs, wf r = true) ∧ Q (.d (.list ((rs.flatMap (res1 n)).map prD))) M
theorem k_l_resolved {rs : List Rg} {n : Int} {M : Ms} {Q : Ent → Ms → Prop} {X : Xa} (h1 : rs.length ≤ 20) (h2 : ∀ r ∈ rs, wf r = true) (q : Q (.d (.list ((rs.flatMap (res1 n)).map prD))) M) : c_l_resolved [.d (.list (rs.map rgD)), .d (.int n)] M Q X := ⟨rs, n, rfl, h1, h2, q⟩
theorem sc_l_resolved : FnScope ["_law_found", "_law_total", "_law_resolved_here", "_law_one", "_law_start", "_law_end"] ["_law_found", "_law_total"] (defScope (topS 26)) := ⟨rfl, rfl, rfl, by decide +kernel, rfl, by decide +kernel, by decide +kernel⟩
theorem ca_l_resolved (T : Top fa fn K mg) : Ca P w K mg base "_law_resolved" (topS 26) 1 ["_law_found", "_law_total"] c_l_resolved := by
  have sc := sc_l_resolved
  refine ca_of T 8 16 rfl rfl (fun _ _ _ _ _ _ us hl => match us, hl with | [_, _], _ => rfl) fun fd F => fn_ok F sc (fun es M Q X h => ?_) fun cdv A outer s H E hr => ⟨_, (pss_cons (ps_set (i := 2) sc.nd rfl (Or.inl rfl) (pe_lst pa_nil))
      (pss_cons (ps_for PassesOwn.never rfl (ki_list (K := K) rfl (pv 0)) (pg_name (i := 3) sc.nd rfl (Or.inl rfl)) (pss_cons (ps_set (i := 4) sc.nd rfl (Or.inl rfl) (pe_ix (kIx (K := K) rfl) (pv 3) pe_int (fun _ _ => rfl)))
      (pss_cons (ps_set (i := 5) sc.nd rfl (Or.inl rfl) (pv 1))
      (pss_cons (ps_if (pt_cmpR op_isN1 (pv 4) pe_non (nomark _)) (pss_one (ps_set (i := 4) sc.nd rfl (Or.inl rfl) (pe_callB (call_max2 rfl) (by rfl) (T.free 3 rfl) (by decide +kernel) (pa_cons pe_int (pa_cons (pe_op op_sub (pv 1) (pe_ix (kIx (K := K) rfl) (pv 3) pe_int (fun _ _ => rfl))) pa_nil))))) (pss_one (ps_if (PW.pt (pw_and (pt_cmpR op_notN1 (pe_ix (kIx (K := K) rfl) (pv 3) pe_int (fun _ _ => rfl)) pe_non (nomark _)) (pw_and1 (pt_cmpR op_ltU (pe_ix (kIx (K := K) rfl) (pv 3) pe_int (fun _ _ => rfl)) (pv 1) (nomark _))))) (pss_one (ps_set (i := 5) sc.nd rfl (Or.inl rfl) (pe_op (kAdd (K := K) rfl) (pe_ix (kIx (K := K) rfl) (pv 3) pe_int (fun _ _ => rfl)) pe_int))) pss_nil)))
      (pss_one (ps_if (pt_cmpR op_ltU (pv 4) (pv 5) (nomark _)) (pss_one (ps_expr (pe_bm PySem.F.plainAttrs_list PySem.F.slot_list_append PySem.F.type_list_append mt_append (pv 2) (pa_cons (pe_tup (pa_cons (pv 4) (pa_cons (pv 5) pa_nil))) pa_nil)))) pss_nil))))))
      (pss_one (ps_ret (pv 2))))), fun es M Q X h => ?_⟩
  · obtain ⟨rs, n, rfl, h1, h2, k⟩ := h
    rfl
  · obtain ⟨rs, n, rfl, h1, h2, k⟩ := h
    try simp only [cx_K, cx_Kx]
    refine s_wk ?_
    fail "z"
    rename_i a ha
    refine s_for ?_
    fail "z"
    refine ⟨fun i Γ' M' => ∃ (v3 v4 v5 : Option Ent), Γ' = [some (.d (.list (rs.map rgD))), some (.d (.int n)), some (.r a), v3, v4, v5] ∧ M' = um M a (.lst (((rs.take i).flatMap (res1 n)).map fun r => Ent.d (prD r))), ⟨_, _, _, rfl, rfl⟩, fun _ _ _ _ _ => trivial, ?_, ?_⟩
    · rintro i e Γ' M' he ⟨v3, v4, v5, rfl, rfl⟩
      obtain ⟨d, hd, rfl⟩ := map_get he
      obtain ⟨r, hr', rfl⟩ := map_get hd
      have hw := h2 r (List.mem_of_getElem? hr')
      have hln : (((rs.take i).flatMap (res1 n)).map fun r => Ent.d (prD r)).length < sizeLine := by
        rw [List.length_map]
        have q1 := res_len n (rs.take i)
        rw [List.length_take] at q1
        exact Nat.lt_of_le_of_lt (show _ ≤ 20 by omega) (by decide)
      obtain ⟨f, l⟩ := r
      cases f with
      | none =>
        cases l with
        | none => exact absurd hw (by decide)
        | some l =>
          fail "z"
          · rename_i hb
            refine ⟨_, _, _, rfl, ?_⟩
            rw [um_um, take_succ hr', List.flatMap_append, List.flatMap_cons, List.flatMap_nil, List.append_nil, res_none2, if_pos hb, List.map_append]
            rfl
          · rename_i hb
            refine ⟨_, _, _, rfl, ?_⟩
            rw [take_succ hr', List.flatMap_append, List.flatMap_cons, List.flatMap_nil, List.append_nil, res_none2, if_neg hb, List.append_nil]
      | some f =>
        cases l with
        | none =>
          fail "z"
          · rename_i hb
            refine ⟨_, _, _, rfl, ?_⟩
            rw [um_um, take_succ hr', List.flatMap_append, List.flatMap_cons, List.flatMap_nil, List.append_nil, res_open, if_pos hb, List.map_append]
            rfl
          · rename_i hb
            refine ⟨_, _, _, rfl, ?_⟩
            rw [take_succ hr', List.flatMap_append, List.flatMap_cons, List.flatMap_nil, List.append_nil, res_open, if_neg hb, List.append_nil]
        | some l =>
          fail "z"
          · rename_i hx hb
            refine ⟨_, _, _, rfl, ?_⟩
            rw [um_um, take_succ hr', List.flatMap_append, List.flatMap_cons, List.flatMap_nil, List.append_nil, res_bothA hx, if_pos hb, List.map_append]
            rfl
          · rename_i hx hb
            refine ⟨_, _, _, rfl, ?_⟩
            rw [take_succ hr', List.flatMap_append, List.flatMap_cons, List.flatMap_nil, List.append_nil, res_bothA hx, if_neg hb, List.append_nil]
          · rename_i hx hb
            refine ⟨_, _, _, rfl, ?_⟩
            rw [um_um, take_succ hr', List.flatMap_append, List.flatMap_cons, List.flatMap_nil, List.append_nil, res_bothB hx, if_pos hb, List.map_append]
            rfl
          · rename_i hx hb
            refine ⟨_, _, _, rfl, ?_⟩
            rw [take_succ hr', List.flatMap_append, List.flatMap_cons, List.flatMap_nil, List.append_nil, res_bothB hx, if_neg hb, List.append_nil]
    · rintro Γ' M' ⟨v3, v4, v5, rfl, rfl⟩
      rw [List.length_map, List.length_map, List.take_length]
      fail "z"
      refine ⟨(rs.flatMap (res1 n)).map prD, M, by rw [um_same, List.map_map]; rfl, ha, sameM_um ha, M, SameM.refl M, ?_⟩
      exact k
local macro_rules | `(tactic| fail "zl") => `(tactic| with_reducible refine w_lst ?_)
local macro_rules | `(tactic| fail "zk") => `(tactic| with_reducible refine k_l_resolved ?_ ?_ ?_)
def c_read_number : ASp := fun es M Q X => ∃ (text : Str), es = [.d (.str text)] ∧ (text.length ≤ 100000) ∧ (Q (.d (oi (num text))) M)
theorem k_read_number {text : Str} {M : Ms} {Q : Ent → Ms → Prop} {X : Xa} (h1 : text.length ≤ 100000) (q : Q (.d (oi (num text))) M) : c_read_number [.d (.str text)] M Q X := ⟨text, rfl, h1, q⟩
theorem sc_read_number : FnScope ["text"] ["text"] (defScope (topS 5)) := ⟨rfl, rfl, rfl, by decide +kernel, rfl, by decide +kernel, by decide +kernel⟩
theorem ca_read_number (T : Top fa fn K mg) : Ca P w K mg base "read_number" (topS 5) 2 ["text"] c_read_number := by
  have sc := sc_read_number
  refine ca_of T 9 19 rfl rfl (fun _ _ _ _ _ _ us hl => match us, hl with | [_], _ => rfl) fun fd F => fn_ok F sc (fun es M Q X h => ?_) fun cdv A outer s H E hr => ⟨_, (pss_cons (ps_if (PW.pt (pw_or (pt_not (pt_chain op_leU op_leU pe_int (pe_callB (kLen (K := K) rfl) (by rfl) (T.free 13 rfl) (by decide +kernel) (pa_cons (pv 0) pa_nil)) (C8.pe_gc rfl (T.int 17 rfl)))) (pw_or1 (pt_not (kt_tru (K := K) rfl (ke_ca (K := K) rfl (ca_consists_of (P := P) (w := w) (base := base) T) hr (by decide) rfl (pa_cons (pv 0) (pa_cons (C8.pe_gc rfl (T.str 18 rfl)) pa_nil))) (by intro _; rfl)))))) (pss_one (ps_ret pe_non)) pss_nil)
      (pss_cons (ps_if (PW.pt (pw_and (pt_cmpR (kEq (K := K) rfl hr.units) (pe_ix (kIx (K := K) rfl) (pv 0) pe_int (fun _ _ => rfl)) pe_str (nomark _)) (pw_and1 (pt_cmpR (kNe (K := K) rfl hr.units) (pv 0) pe_str (nomark _))))) (pss_one (ps_ret pe_non)) pss_nil)
      (pss_one (ps_ret (pe_callTy call_intU (by rfl) (T.free 7 rfl) (by decide +kernel) (pa_cons (pv 0) pa_nil)))))), fun es M Q X h => ?_⟩
  · obtain ⟨text, rfl, h1, k⟩ := h
    rfl
  · obtain ⟨text, rfl, h1, k⟩ := h
    try simp only [cx_K, cx_Kx]
    have nf : digB text = false → num text = none := fun h => by unfold num; rw [h]; rfl
    cases hcs : cs text with
    | nil =>
      have h0 : text.length = 0 := by rw [len_cs, hcs]; rfl
      fail "z"
      all_goals first
        | (exfalso; omega)
        | (refine q_of k ?_ rfl; rw [nf (by simp [digB, hcs])])
    | cons c0 r0 =>
      have hl : text.length = r0.length + 1 := by rw [len_cs, hcs]; rfl
      have hl2 : (cs text).length = r0.length + 1 := by rw [hcs]; rfl
      have q2 : decide (1 ≤ (cs text).length) = true := decide_eq_true (by omega)
      fail "z"
      · rename_i hb1 hb2 hb3
        refine q_of k ?_ rfl
        rw [nf (by unfold digB; rw [hb3]; simp)]
        try rfl
      · rename_i hb1 hb2 hb3
        have q3 : decide ((cs text).length ≤ 6) = true := decide_eq_true (by omega)
        refine o_ixS (c := c0) (by rw [sizeLine]; omega) (atI_nat' (by decide) (by show (cs text)[0]? = _; rw [hcs]; rfl)) ?_
        have hh : (cs text).head? = some c0 := by rw [hcs]; rfl
        have e9 : (({ cps := #[c0] } : Str) = Str.ofString "0") ↔ c0 = 48 := str_one_inj (d := 48)
        fail "z"
        · rename_i hb4 hb5
          refine q_of k ?_ rfl
          have h48 : (cs text).head? = some 48 := by rw [hh, e9.mp hb4]
          rw [nf (by unfold digB; rw [h48, decide_eq_false hb5]; simp)]
          try rfl
        · rename_i hb4 hb5
          have hd : digB text = true := by
            unfold digB
            rw [q2, q3, hb3, decide_eq_true (show text = "0" from hb5)]
            try simp
          refine n_intS (dig_int hd) (by omega) ?_
          fail "z"
          refine q_of k ?_ rfl
          unfold num
          rw [if_pos hd]
          try rfl
        · rename_i hb4 hb5
          have hd : digB text = true := by
            unfold digB
            rw [q2, q3, hb3, hh, decide_eq_false (show ¬ some c0 = some 48 from fun q => hb4 (e9.mpr (Option.some.inj q)))]
            try simp
          refine n_intS (dig_int hd) (by omega) ?_
          fail "z"
          refine q_of k ?_ rfl
          unfold num
          rw [if_pos hd]
          try rfl
      · rename_i hb1 hb2 hb3
        refine q_of k ?_ rfl
        have q3 : decide ((cs text).length ≤ 6) = false := decide_eq_false (by omega)
        rw [nf (by unfold digB; rw [q3]; simp)]
        try rfl
theorem kk_read_number {text : Str} {M : Ms} {Q : Ent → Ms → Prop} {X : Xa} (h : text.length ≤ 100000) (q1 : num text = none → Q (.d .none) M) (q2 : ∀ v, num text = some v → Q (.d (.int v)) M) : c_read_number [.d (.str text)] M Q X := by
  refine k_read_number h ?_
  cases e : num text with
  | none => exact q1 e
  | some v => exact q2 v e
local macro_rules | `(tactic| fail "zk") => `(tactic| with_reducible refine kk_read_number ?_ ?_ ?_)
def c_l_draw : ASp := fun es M Q X => ∃ (p : Addr), ∃ (size : Int), ∃ (ns : List Int), ∃ (i : Nat), ∃ (b : Int), ∃ (n : Int), ∃ (s : Int), es = [.r p, .d (.int size)] ∧ (M p = some (Bg ns i b n s)) ∧ (1 ≤ size) ∧ (size ≤ 1000000) ∧ (∀ d i2 b2 n2, 0 ≤ d → d < size → Q (.d (.int d)) (um M p (Bg ns i2 b2 n2 s)))
theorem k_l_draw {p : Addr} {size : Int} {ns : List Int} {i : Nat} {b : Int} {n : Int} {s : Int} {M : Ms} {Q : Ent → Ms → Prop} {X : Xa} (h1 : M p = some (Bg ns i b n s)) (h2 : 1 ≤ size) (h3 : size ≤ 1000000) (q : ∀ d i2 b2 n2, 0 ≤ d → d < size → Q (.d (.int d)) (um M p (Bg ns i2 b2 n2 s))) : c_l_draw [.r p, .d (.int size)] M Q X := ⟨p, size, ns, i, b, n, s, rfl, h1, h2, h3, q⟩
theorem k2_l_draw {p : Addr} {size : Int} {ns : List Int} {i : Nat} {b : Int} {n : Int} {s : Int} {M : Ms} {Q : Ent → Ms → Prop} {X : Xa} (h2 : 1 ≤ size) (h3 : size ≤ 1000000) (q : ∀ d i2 b2 n2, 0 ≤ d → d < size → Q (.d (.int d)) (um M p (Bg ns i2 b2 n2 s))) : c_l_draw [.r p, .d (.int size)] (um M p (Bg ns i b n s)) Q X := k_l_draw (ns := ns) (i := i) (b := b) (n := n) (s := s) um_same h2 h3 (by simpa only [um_um] using q)
theorem sc_l_draw : FnScope ["_law_source_here", "_law_limit", "_law_cell", "_law_digit"] ["_law_source_here", "_law_limit"] (defScope (topS 14)) := ⟨rfl, rfl, rfl, by decide +kernel, rfl, by decide +kernel, by decide +kernel⟩
theorem ca_l_draw (T : Top fa fn K mg) : Ca P w K mg base "_law_draw" (topS 14) 2 ["_law_source_here", "_law_limit"] c_l_draw := by
  have sc := sc_l_draw
  refine ca_of T 10 20 rfl rfl (fun _ _ _ _ _ _ us hl => match us, hl with | [_, _], _ => rfl) fun fd F => fn_ok F sc (fun es M Q X h => ?_) fun cdv A outer s H E hr => ⟨_, (pss_cons (ps_asg (pe_op (kAdd (K := K) rfl) (pe_ix (kIx (K := K) rfl) (pv 0) pe_int (fun _ _ => rfl)) pe_int) (pg_sub (pv 0) pe_int set_list))
      (pss_cons (ps_if (PW.pt (pw_and (pt_cmpR op_ltU (pe_ix (kIx (K := K) rfl) (pv 0) pe_int (fun _ _ => rfl)) pe_int (nomark _)) (pw_and1 (pt_cmpR op_ltU (pe_ix (kIx (K := K) rfl) (pv 0) pe_int (fun _ _ => rfl)) (pe_callB (kLen (K := K) rfl) (by rfl) (T.free 13 rfl) (by decide +kernel) (pa_cons (pe_ix (kIx (K := K) rfl) (pv 0) pe_int (fun _ _ => rfl)) pa_nil)) (nomark _))))) (pss_cons (ps_set (i := 2) sc.nd rfl (Or.inl rfl) (pe_ix (kIx (K := K) rfl) (pe_ix (kIx (K := K) rfl) (pv 0) pe_int (fun _ _ => rfl)) (pe_ix (kIx (K := K) rfl) (pv 0) pe_int (fun _ _ => rfl)) (fun _ _ => rfl)))
      (pss_cons (ps_asg (pe_op (kAdd (K := K) rfl) (pe_ix (kIx (K := K) rfl) (pv 0) pe_int (fun _ _ => rfl)) pe_int) (pg_sub (pv 0) pe_int set_list))
      (pss_cons (ps_if (pt_cmpR op_ltU (pv 2) (pe_op op_pow pe_int pe_int) (nomark _)) (pss_one (ps_ret (ke_ca (K := K) rfl (ca_l_mixed (P := P) (w := w) (base := base) T) hr (by decide) rfl (pa_cons (pv 2) (pa_cons (pe_ix (kIx (K := K) rfl) (pv 0) pe_int (fun _ _ => rfl)) (pa_cons (pv 1) pa_nil)))))) pss_nil)
      (pss_one (ps_asg (pv 2) (pg_sub (pv 0) pe_int set_list)))))) pss_nil)
      (pss_cons (ps_if (pt_cmpR op_gtU (pe_ix (kIx (K := K) rfl) (pv 0) pe_int (fun _ _ => rfl)) pe_int (nomark _)) (pss_cons (ps_set (i := 3) sc.nd rfl (Or.inl rfl) (pe_op op_modN (pe_callTy call_intU (by rfl) (T.free 7 rfl) (by decide +kernel) (pa_cons (pe_ix (kIx (K := K) rfl) (pv 0) pe_int (fun _ _ => rfl)) pa_nil)) (pv 1)))
      (pss_cons (ps_asg (pe_op op_fdivN (pe_ix (kIx (K := K) rfl) (pv 0) pe_int (fun _ _ => rfl)) (pv 1)) (pg_sub (pv 0) pe_int set_list))
      (pss_one (ps_ret (pv 3))))) pss_nil)
      (pss_one (ps_ret (ke_ca (K := K) rfl (ca_l_mixed (P := P) (w := w) (base := base) T) hr (by decide) rfl (pa_cons (pe_ix (kIx (K := K) rfl) (pv 0) pe_int (fun _ _ => rfl)) (pa_cons (pe_ix (kIx (K := K) rfl) (pv 0) pe_int (fun _ _ => rfl)) (pa_cons (pv 1) pa_nil))))))))), fun es M Q X h => ?_⟩
  · obtain ⟨p, size, ns, i, b, n, s, rfl, h1, h2, h3, k⟩ := h
    rfl
  · obtain ⟨p, size, ns, i, b, n, s, rfl, h1, h2, h3, k⟩ := h
    try simp only [cx_K, cx_Kx]
    fail "z"
    · rename_i hb1 hb2
      rw [List.length_map] at hb2
      refine o_ixL (d := .int (ns[i]'(by omega))) (atI_nat' (by omega) (by rw [List.getElem?_map]; show (ns[((i : Int)).toNat]?).map _ = _; rw [Int.toNat_natCast, List.getElem?_eq_getElem (by omega)]; rfl)) ?_
      fail "z"
      all_goals first
        | exact ⟨by omega, by omega⟩
        | (repeat rw [um_um]); first
          | exact k _ (i + 1) _ _ (by assumption) (by assumption)
          | exact k _ (i + 1) _ _ (fm0 (by omega)) (fm1 (by omega))
    all_goals first
      | exact ⟨by omega, by omega⟩
      | (repeat rw [um_um]); first
        | exact k _ i _ _ (by assumption) (by assumption)
        | exact k _ i _ _ (fm0 (by omega)) (fm1 (by omega))
local macro_rules | `(tactic| fail "zk") => `(tactic| ((with_reducible refine k_l_draw (ns := ?ns) (i := ?i) (b := ?b) (n := ?n) (s := ?s) ?hh0 ?_ ?_ ?_) ; (case hh0 => fail "zlook")))
local macro_rules | `(tactic| fail "zk") => `(tactic| with_reducible refine k2_l_draw ?_ ?_ ?_)
def c_l_same_pairs : ASp := fun es M Q X => ∃ (xs : List (Int × Int)), es = [.d (.list (xs.map prD)), .d (.list (xs.map prD))] ∧ xs.length ≤ 1000 ∧ Q (.d (.bool true)) M
theorem k_l_same_pairs {xs : List (Int × Int)} {M : Ms} {Q : Ent → Ms → Prop} {X : Xa} (h : xs.length ≤ 1000) (q : Q (.d (.bool true)) M) : c_l_same_pairs [.d (.list (xs.map prD)), .d (.list (xs.map prD))] M Q X := ⟨xs, rfl, h, q⟩
theorem sc_l_same_pairs : FnScope ["_law_actual", "_law_expected", "_law_k", "_law_pair"] ["_law_actual", "_law_expected"] (defScope (topS 16)) := ⟨rfl, rfl, rfl, by decide +kernel, rfl, by decide +kernel, by decide +kernel⟩
theorem ca_l_same_pairs (T : Top fa fn K mg) : Ca P w K mg base "_law_same_pairs" (topS 16) 2 ["_law_actual", "_law_expected"] c_l_same_pairs := by
  have sc := sc_l_same_pairs
  refine ca_of T 11 23 rfl rfl (fun _ _ _ _ _ _ us hl => match us, hl with | [_, _], _ => rfl) fun fd F => fn_ok F sc (fun es M Q X h => ?_) fun cdv A outer s H E hr => ⟨_, (pss_cons (ps_if (PW.pt (pw_or (pt_not (kt_tru (K := K) rfl (pe_callB (kIsi (K := K) rfl) (by rfl) (T.free 10 rfl) (by decide +kernel) (pa_cons (pv 0) (pa_cons (pe_bltn (v := .ty "list") (by rfl) (T.free 6 rfl) PyProof.Rows.boot_list rfl) pa_nil))) (by intro _; rfl))) (pw_or1 (pt_cmpR (kNe (K := K) rfl hr.units) (pe_callB (kLen (K := K) rfl) (by rfl) (T.free 13 rfl) (by decide +kernel) (pa_cons (pv 0) pa_nil)) (pe_callB (kLen (K := K) rfl) (by rfl) (T.free 13 rfl) (by decide +kernel) (pa_cons (pv 1) pa_nil)) (nomark _))))) (pss_one (ps_ret pe_bl)) pss_nil)
      (pss_cons (ps_for PassesOwn.never rfl (pi_range1 (by rfl) (T.free 21 rfl) (pa_cons (pe_callB (kLen (K := K) rfl) (by rfl) (T.free 13 rfl) (by decide +kernel) (pa_cons (pv 1) pa_nil)) pa_nil)) (pg_name (i := 2) sc.nd rfl (Or.inl rfl)) (pss_cons (ps_set (i := 3) sc.nd rfl (Or.inl rfl) (pe_ix (kIx (K := K) rfl) (pv 0) (pv 2) (fun _ _ => rfl)))
      (pss_cons (ps_if (PW.pt (pw_or (pt_not (kt_tru (K := K) rfl (pe_callB (kIsi (K := K) rfl) (by rfl) (T.free 10 rfl) (by decide +kernel) (pa_cons (pv 3) (pa_cons (pe_bltn (v := .ty "tuple") (by rfl) (T.free 22 rfl) PyProof.Rows.boot_tuple rfl) pa_nil))) (by intro _; rfl))) (pw_or1 (pt_cmpR (kNe (K := K) rfl hr.units) (pe_callB (kLen (K := K) rfl) (by rfl) (T.free 13 rfl) (by decide +kernel) (pa_cons (pv 3) pa_nil)) pe_int (nomark _))))) (pss_one (ps_ret pe_bl)) pss_nil)
      (pss_cons (ps_if (PW.pt (pw_or (pt_not (kt_tru (K := K) rfl (ke_ca (K := K) rfl (ca_l_integer (P := P) (w := w) (base := base) T) hr (by decide) rfl (pa_cons (pe_ix (kIx (K := K) rfl) (pv 3) pe_int (fun _ _ => rfl)) pa_nil)) (by intro _; rfl))) (pw_or1 (pt_not (kt_tru (K := K) rfl (ke_ca (K := K) rfl (ca_l_integer (P := P) (w := w) (base := base) T) hr (by decide) rfl (pa_cons (pe_ix (kIx (K := K) rfl) (pv 3) pe_int (fun _ _ => rfl)) pa_nil)) (by intro _; rfl)))))) (pss_one (ps_ret pe_bl)) pss_nil)
      (pss_one (ps_if (PW.pt (pw_or (pt_cmpR (kNe (K := K) rfl hr.units) (pe_ix (kIx (K := K) rfl) (pv 3) pe_int (fun _ _ => rfl)) (pe_ix (kIx (K := K) rfl) (pe_ix (kIx (K := K) rfl) (pv 1) (pv 2) (fun _ _ => rfl)) pe_int (fun _ _ => rfl)) (nomark _)) (pw_or1 (pt_cmpR (kNe (K := K) rfl hr.units) (pe_ix (kIx (K := K) rfl) (pv 3) pe_int (fun _ _ => rfl)) (pe_ix (kIx (K := K) rfl) (pe_ix (kIx (K := K) rfl) (pv 1) (pv 2) (fun _ _ => rfl)) pe_int (fun _ _ => rfl)) (nomark _))))) (pss_one (ps_ret pe_bl)) pss_nil))))))
      (pss_one (ps_ret pe_bl)))), fun es M Q X h => ?_⟩
  · obtain ⟨xs, rfl, h1, k⟩ := h
    rfl
  · obtain ⟨xs, rfl, h1, k⟩ := h
    try simp only [cx_K, cx_Kx]
    fail "z"
    refine s_for ?_
    fail "z"
    refine ⟨fun t Γ' M' => M' = M ∧ ∃ v2 v3, Γ' = [some (.d (.list (xs.map prD))), some (.d (.list (xs.map prD))), v2, v3], ⟨rfl, _, _, rfl⟩, fun _ _ _ _ _ => trivial, ?_, ?_⟩
    · rintro t e Γ' M' he ⟨rfl, v2, v3, rfl⟩
      obtain ⟨ht, rfl⟩ := rgE_get he
      have ht' : t < xs.length := by simpa using ht
      have hat := atI_nat' (xs := xs.map prD) (i := 0 + (t : Int)) (x := prD xs[t]) (by omega) (by rw [show (0 + (t : Int)).toNat = t by omega, List.getElem?_map, List.getElem?_eq_getElem ht']; rfl)
      fail "z"
      all_goals exact ⟨rfl, _, _, rfl⟩
    · rintro Γ' M' ⟨rfl, v2, v3, rfl⟩
      fail "z"
      all_goals exact k
local macro_rules | `(tactic| fail "zk") => `(tactic| with_reducible refine k_l_same_pairs ?_ ?_)
def c_l_range : ASp := fun es M Q X => ∃ (text : Str), es = [.d (.str text)] ∧ (text.length ≤ 100000) ∧ (Q (.d (orD (rng text))) M)
theorem k_l_range {text : Str} {M : Ms} {Q : Ent → Ms → Prop} {X : Xa} (h1 : text.length ≤ 100000) (q : Q (.d (orD (rng text))) M) : c_l_range [.d (.str text)] M Q X := ⟨text, rfl, h1, q⟩
theorem sc_l_range : FnScope ["_law_word", "_law_dash", "_law_last", "_law_first"] ["_law_word"] (defScope (topS 18)) := ⟨rfl, rfl, rfl, by decide +kernel, rfl, by decide +kernel, by decide +kernel⟩
theorem ca_l_range (T : Top fa fn K mg) : Ca P w K mg base "_law_range" (topS 18) 2 ["_law_word"] c_l_range := by
  have sc := sc_l_range
  refine ca_of T 12 24 rfl rfl (fun _ _ _ _ _ _ us hl => match us, hl with | [_], _ => rfl) fun fd F => fn_ok F sc (fun es M Q X h => ?_) fun cdv A outer s H E hr => ⟨_, (pss_cons (ps_set (i := 1) sc.nd rfl (Or.inl rfl) (pe_m1 PySem.F.slot_str_find PySem.F.type_str_find mt_find (pv 0) pe_str))
      (pss_cons (ps_if (pt_cmpR op_ltU (pv 1) pe_int (nomark _)) (pss_one (ps_ret pe_non)) pss_nil)
      (pss_cons (ps_if (pt_cmpR (kEq (K := K) rfl hr.units) (pv 1) pe_int (nomark _)) (pss_cons (ps_set (i := 2) sc.nd rfl (Or.inl rfl) (ke_ca (K := K) rfl (ca_l_number (P := P) (w := w) (base := base) T) hr (by decide) rfl (pa_cons (pe_slice (kSl (K := K) rfl) (pv 0) (po_some pe_int) po_none) pa_nil)))
      (pss_cons (ps_if (pt_cmpR op_isN1 (pv 2) pe_non (nomark _)) (pss_one (ps_ret pe_non)) pss_nil)
      (pss_one (ps_ret (pe_tup (pa_cons pe_non (pa_cons (pv 2) pa_nil))))))) pss_nil)
      (pss_cons (ps_set (i := 3) sc.nd rfl (Or.inl rfl) (ke_ca (K := K) rfl (ca_l_number (P := P) (w := w) (base := base) T) hr (by decide) rfl (pa_cons (pe_slice (kSl (K := K) rfl) (pv 0) po_none (po_some (pv 1))) pa_nil)))
      (pss_cons (ps_if (pt_cmpR op_isN1 (pv 3) pe_non (nomark _)) (pss_one (ps_ret pe_non)) pss_nil)
      (pss_cons (ps_if (pt_cmpR (kEq (K := K) rfl hr.units) (pv 1) (pe_op op_sub (pe_callB (kLen (K := K) rfl) (by rfl) (T.free 13 rfl) (by decide +kernel) (pa_cons (pv 0) pa_nil)) pe_int) (nomark _)) (pss_one (ps_ret (pe_tup (pa_cons (pv 3) (pa_cons pe_non pa_nil))))) pss_nil)
      (pss_cons (ps_set (i := 2) sc.nd rfl (Or.inl rfl) (ke_ca (K := K) rfl (ca_l_number (P := P) (w := w) (base := base) T) hr (by decide) rfl (pa_cons (pe_slice (kSl (K := K) rfl) (pv 0) (po_some (pe_op (kAdd (K := K) rfl) (pv 1) pe_int)) po_none) pa_nil)))
      (pss_cons (ps_if (PW.pt (pw_or (pt_cmpR op_isN1 (pv 2) pe_non (nomark _)) (pw_or1 (pt_cmpR op_ltU (pv 2) (pv 3) (nomark _))))) (pss_one (ps_ret pe_non)) pss_nil)
      (pss_one (ps_ret (pe_tup (pa_cons (pv 3) (pa_cons (pv 2) pa_nil))))))))))))), fun es M Q X h => ?_⟩
  · obtain ⟨text, rfl, h1, k⟩ := h
    rfl
  · obtain ⟨text, rfl, h1, k⟩ := h
    try simp only [cx_K, cx_Kx]
    rcases cut_at text 45 with hn | ⟨a, b, rfl, hn⟩
    · have hf : Txt.find text (Str.ofString "-") = -1 := find_no hn
      have hp : Txt.partition text (Str.ofString "-") = (text, Str.empty, Str.empty) := part_no hn
      have e : rng text = none := by unfold rng; rw [show (("-" : Str)) = Str.ofString "-" from rfl, hp]; rfl
      rw [e] at k
      have hg : (1 : Int) ≤ 1 := by decide
      fail "z"
      all_goals first
        | exact q_of k rfl rfl
        | (exfalso; omega)
        | skip
    · rw [show (⟨#[45]⟩ : Str) = Str.ofString "-" from rfl] at *
      have hf : Txt.find (a ++ Str.ofString "-" ++ b) (Str.ofString "-") = (a.length : Int) := find_yes hn
      have hp : Txt.partition (a ++ Str.ofString "-" ++ b) (Str.ofString "-") = (a, Str.ofString "-", b) := part_yes hn
      have e : rng (a ++ Str.ofString "-" ++ b) = rngP (a, Str.ofString "-", b) := by unfold rng; rw [show (("-" : Str)) = Str.ofString "-" from rfl, hp]
      rw [e] at k
      have c2 : cutS (a ++ Str.ofString "-" ++ b) none (some (a.length : Int)) = a := cs_inj (by rw [cut_to, cs_app, cs_app, len_cs, List.append_assoc, List.take_left'  rfl])
      have c3 : cutS (a ++ Str.ofString "-" ++ b) (some ((a.length : Int) + 1)) none = b := cs_inj (by rw [show (a.length : Int) + 1 = ((a.length + 1 : Nat) : Int) from rfl, cut_from, cs_app, List.drop_left' (by rw [cs_app, List.length_append, ← len_cs]; rfl)])
      have c1 : a = "" → cutS (a ++ Str.ofString "-" ++ b) (some 1) none = b := fun q => by rw [q] at c3 ⊢; exact c3
      have l1 := cut_len (a ++ Str.ofString "-" ++ b) (some 1) none
      have e0 : (a.length : Int) = 0 ↔ a = "" := ⟨fun q => cs_inj (List.eq_nil_of_length_eq_zero (by rw [← len_cs]; omega)), fun q => by rw [q]; rfl⟩
      have e1 : (a.length : Int) = ((a ++ Str.ofString "-" ++ b).length : Int) - 1 ↔ b = "" := by
        rw [len_app, len_app]
        have : (Str.ofString "-").length = 1 := rfl
        rw [this]
        exact ⟨fun q => cs_inj (List.eq_nil_of_length_eq_zero (by rw [← len_cs]; omega)), fun q => by rw [q]; show (a.length : Int) = ((a.length + 1 + 0 : Nat) : Int) - 1; omega⟩
      have ne : ¬ Str.ofString "-" = "" := by decide +kernel
      have l2 : a.length ≤ 100000 := by rw [len_app, len_app] at h1; omega
      have l3 : b.length ≤ 100000 := by rw [len_app, len_app] at h1; omega
      fail "z"
      all_goals first
        | (exfalso; omega)
        | (generalize Txt.find (a ++ Str.ofString "-" ++ b) (Str.ofString "-") = f at *; subst hf)
      all_goals first
        | (rw [c2]; exact l2)
        | (rw [c3]; exact l3)
        | exact Nat.le_trans l1 h1
        | (refine q_of k ?_ rfl; clear k; simp_all [rngP]; done)
        | (refine q_of k ?_ rfl; clear k; simp_all [rngP]; rw [if_neg (by omega)])
        | skip
theorem kk_l_range {text : Str} {M : Ms} {Q : Ent → Ms → Prop} {X : Xa} (h : text.length ≤ 100000) (q1 : rng text = none → Q (.d .none) M) (q2 : ∀ v, rng text = some v → Q (.d (rgD v)) M) : c_l_range [.d (.str text)] M Q X := by
  refine k_l_range h ?_
  cases e : rng text with
  | none => exact q1 e
  | some v => exact q2 v e
local macro_rules | `(tactic| fail "zk") => `(tactic| with_reducible refine kk_l_range ?_ ?_ ?_)
def c_l_same_side : ASp := fun es M Q X => ∃ (x : Option Int), es = [.d (oi x), .d (oi x)] ∧ Q (.d (.bool true)) M
theorem k_l_same_side {x : Option Int} {M : Ms} {Q : Ent → Ms → Prop} {X : Xa} (q : Q (.d (.bool true)) M) : c_l_same_side [.d (oi x), .d (oi x)] M Q X := ⟨x, rfl, q⟩
theorem sc_l_same_side : FnScope ["_law_actual", "_law_expected"] ["_law_actual", "_law_expected"] (defScope (topS 24)) := ⟨rfl, rfl, rfl, by decide +kernel, rfl, by decide +kernel, by decide +kernel⟩
theorem ca_l_same_side (T : Top fa fn K mg) : Ca P w K mg base "_law_same_side" (topS 24) 2 ["_law_actual", "_law_expected"] c_l_same_side := by
  have sc := sc_l_same_side
  refine ca_of T 13 25 rfl rfl (fun _ _ _ _ _ _ us hl => match us, hl with | [_, _], _ => rfl) fun fd F => fn_ok F sc (fun es M Q X h => ?_) fun cdv A outer s H E hr => ⟨_, (pss_cons (ps_if (pt_cmpR op_isN1 (pv 1) pe_non (nomark _)) (pss_one (ps_ret (pe_cmpR op_isN1 (pv 0) pe_non (nomark _)))) pss_nil)
      (pss_one (ps_ret (ke_and (K := K) rfl (ke_ca (K := K) rfl (ca_l_integer (P := P) (w := w) (base := base) T) hr (by decide) rfl (pa_cons (pv 0) pa_nil)) (pe_one (pe_cmpR (kEq (K := K) rfl hr.units) (pv 0) (pv 1) (nomark _))))))), fun es M Q X h => ?_⟩
  · obtain ⟨x, rfl, k⟩ := h
    rfl
  · obtain ⟨x, rfl, k⟩ := h
    try simp only [cx_K, cx_Kx]
    cases x with
    | none =>
      fail "z"
    | some v =>
      fail "z"
      all_goals refine q_of k ?_ rfl
      all_goals simp
local macro_rules | `(tactic| fail "zk") => `(tactic| with_reducible refine k_l_same_side ?_)
def c_read_range : ASp := fun es M Q X => ∃ (text : Str), es = [.d (.str text)] ∧ (text.length ≤ 100000) ∧ (Q (.d (orD (rng text))) M)
theorem k_read_range {text : Str} {M : Ms} {Q : Ent → Ms → Prop} {X : Xa} (h1 : text.length ≤ 100000) (q : Q (.d (orD (rng text))) M) : c_read_range [.d (.str text)] M Q X := ⟨text, rfl, h1, q⟩
theorem sc_read_range : FnScope ["text", "before", "dash", "after", "first", "last"] ["text"] (defScope (topS 8)) := ⟨rfl, rfl, rfl, by decide +kernel, rfl, by decide +kernel, by decide +kernel⟩
theorem ca_read_range (T : Top fa fn K mg) : Ca P w K mg base "read_range" (topS 8) 3 ["text"] c_read_range := by
  have sc := sc_read_range
  refine ca_of T 14 26 rfl rfl (fun _ _ _ _ _ _ us hl => match us, hl with | [_], _ => rfl) fun fd F => fn_ok F sc (fun es M Q X h => ?_) fun cdv A outer s H E hr => ⟨_, (pss_cons (ps_asg (pe_m1 PySem.F.slot_str_partition PySem.F.type_str_partition mt_partition (pv 0) pe_str) (pg_tup rfl (pgs_cons (pg_name (i := 1) sc.nd rfl (Or.inl rfl)) (pgs_cons (pg_name (i := 2) sc.nd rfl (Or.inl rfl)) (pgs_cons (pg_name (i := 3) sc.nd rfl (Or.inl rfl)) pgs_nil)))))
      (pss_cons (ps_if (pt_cmpR (kEq (K := K) rfl hr.units) (pv 2) pe_str (nomark _)) (pss_one (ps_ret pe_non)) pss_nil)
      (pss_cons (ps_set (i := 4) sc.nd rfl (Or.inl rfl) (ke_ca (K := K) rfl (ca_read_number (P := P) (w := w) (base := base) T) hr (by decide) rfl (pa_cons (pv 1) pa_nil)))
      (pss_cons (ps_set (i := 5) sc.nd rfl (Or.inl rfl) (ke_ca (K := K) rfl (ca_read_number (P := P) (w := w) (base := base) T) hr (by decide) rfl (pa_cons (pv 3) pa_nil)))
      (pss_cons (ps_if (pt_cmpR (kEq (K := K) rfl hr.units) (pv 1) pe_str (nomark _)) (pss_one (ps_ret (pe_ifExp (pt_cmpR op_isN1 (pv 5) pe_non (nomark _)) pe_non (pe_tup (pa_cons pe_non (pa_cons (pv 5) pa_nil)))))) pss_nil)
      (pss_cons (ps_if (pt_cmpR op_isN1 (pv 4) pe_non (nomark _)) (pss_one (ps_ret pe_non)) pss_nil)
      (pss_cons (ps_if (pt_cmpR (kEq (K := K) rfl hr.units) (pv 3) pe_str (nomark _)) (pss_one (ps_ret (pe_tup (pa_cons (pv 4) (pa_cons pe_non pa_nil))))) pss_nil)
      (pss_cons (ps_if (PW.pt (pw_or (pt_cmpR op_isN1 (pv 5) pe_non (nomark _)) (pw_or1 (pt_cmpR op_ltU (pv 5) (pv 4) (nomark _))))) (pss_one (ps_ret pe_non)) pss_nil)
      (pss_one (ps_ret (pe_tup (pa_cons (pv 4) (pa_cons (pv 5) pa_nil))))))))))))), fun es M Q X h => ?_⟩
  · obtain ⟨text, rfl, h1, k⟩ := h
    rfl
  · obtain ⟨text, rfl, h1, k⟩ := h
    try simp only [cx_K, cx_Kx]
    have hp1 := part_len1 text 45
    have hp2 := part_len2 text 45
    have e : rng text = rngP (Txt.partition text (Str.ofString "-")) := rfl
    rw [e] at k
    rw [show (⟨#[45]⟩ : Str) = Str.ofString "-" from rfl] at hp1 hp2
    fail "z"
    all_goals refine q_of k ?_ rfl
    all_goals clear k
    all_goals simp_all [rngP]
    all_goals (rw [if_neg (by omega)])
theorem kk_read_range {text : Str} {M : Ms} {Q : Ent → Ms → Prop} {X : Xa} (h : text.length ≤ 100000) (q1 : rng text = none → Q (.d .none) M) (q2 : ∀ v, rng text = some v → Q (.d (rgD v)) M) : c_read_range [.d (.str text)] M Q X := by
  refine k_read_range h ?_
  cases e : rng text with
  | none => exact q1 e
  | some v => exact q2 v e
local macro_rules | `(tactic| fail "zk") => `(tactic| with_reducible refine kk_read_range ?_ ?_ ?_)
local macro_rules | `(tactic| fail "zl") => `(tactic| with_reducible refine w_lstM ?_)
def c_l_ranges : ASp := fun es M Q X => ∃ (text : Str), es = [.d (.str text)] ∧ (text.length ≤ 100000) ∧ (Q (.d (orsD (rngs text))) M)
theorem k_l_ranges {text : Str} {M : Ms} {Q : Ent → Ms → Prop} {X : Xa} (h1 : text.length ≤ 100000) (q : Q (.d (orsD (rngs text))) M) : c_l_ranges [.d (.str text)] M Q X := ⟨text, rfl, h1, q⟩
theorem sc_l_ranges : FnScope ["_law_wish_here", "_law_found", "_law_element_here", "_law_word", "_law_one"] ["_law_wish_here"] (defScope (topS 19)) := ⟨rfl, rfl, rfl, by decide +kernel, rfl, by decide +kernel, by decide +kernel⟩
theorem ca_l_ranges (T : Top fa fn K mg) : Ca P w K mg base "_law_ranges" (topS 19) 3 ["_law_wish_here"] c_l_ranges := by
  have sc := sc_l_ranges
  refine ca_of T 15 27 rfl rfl (fun _ _ _ _ _ _ us hl => match us, hl with | [_], _ => rfl) fun fd F => fn_ok F sc (fun es M Q X h => ?_) fun cdv A outer s H E hr => ⟨_, (pss_cons (ps_set (i := 1) sc.nd rfl (Or.inl rfl) (pe_lst pa_nil))
      (pss_cons (ps_for PassesOwn.never rfl (ki_list (K := K) rfl (pe_m1 PySem.F.slot_str_split PySem.F.type_str_split mt_split (pv 0) pe_str)) (pg_name (i := 2) sc.nd rfl (Or.inl rfl)) (pss_cons (ps_set (i := 3) sc.nd rfl (Or.inl rfl) (pe_m1 PySem.F.slot_str_strip PySem.F.type_str_strip mt_stripChars (pv 2) pe_str))
      (pss_one (ps_if (pt_cmpR (kNe (K := K) rfl hr.units) (pv 3) pe_str (nomark _)) (pss_cons (ps_set (i := 4) sc.nd rfl (Or.inl rfl) (ke_ca (K := K) rfl (ca_l_range (P := P) (w := w) (base := base) T) hr (by decide) rfl (pa_cons (pv 3) pa_nil)))
      (pss_cons (ps_if (pt_cmpR op_isN1 (pv 4) pe_non (nomark _)) (pss_one (ps_ret pe_non)) pss_nil)
      (pss_one (ps_expr (pe_bm PySem.F.plainAttrs_list PySem.F.slot_list_append PySem.F.type_list_append mt_append (pv 1) (pa_cons (pv 4) pa_nil)))))) pss_nil))))
      (pss_cons (ps_if (PW.pt (pw_or (pt_cmpR (kEq (K := K) rfl hr.units) (pe_callB (kLen (K := K) rfl) (by rfl) (T.free 13 rfl) (by decide +kernel) (pa_cons (pv 1) pa_nil)) pe_int (nomark _)) (pw_or1 (pt_cmpR op_gtU (pe_callB (kLen (K := K) rfl) (by rfl) (T.free 13 rfl) (by decide +kernel) (pa_cons (pv 1) pa_nil)) pe_int (nomark _))))) (pss_one (ps_ret pe_non)) pss_nil)
      (pss_one (ps_ret (pv 1)))))), fun es M Q X h => ?_⟩
  · obtain ⟨text, rfl, h1, k⟩ := h
    rfl
  · obtain ⟨text, rfl, h1, k⟩ := h
    try simp only [cx_K, cx_Kx]
    refine s_wk ?_
    fail "z"
    rename_i a ha
    refine s_for ?_
    fail "z"
    rw [show Str.ofString "," = (⟨#[44]⟩ : Str) from rfl]
    refine ⟨fun i Γ' M' => ∃ (fs : List Rg) (v2 v3 v4 : Option Ent), Γ' = [some (.d (.str text)), some (.r a), v2, v3, v4] ∧ M' = um M a (.lst (fs.map fun r => Ent.d (rgD r))) ∧ allSome ((((Txt.split text ⟨#[44]⟩).take i).flatMap fun p => finish (cs p)).map rng) = some fs, ⟨[], _, _, _, rfl, rfl, rfl⟩, fun _ _ _ _ _ => trivial, ?_, ?_⟩
    · rintro i e Γ' M' he ⟨fs, v2, v3, v4, rfl, rfl, hs⟩
      obtain ⟨d, hd, rfl⟩ := map_get he
      obtain ⟨p, hp, rfl⟩ := map_get hd
      have hp' : (Txt.split text ⟨#[44]⟩)[i]? = some p := hp
      have hpl := piece_len (s := 44) (by decide) (List.mem_of_getElem? hp')
      have hsl := strip_len p (Str.ofString " ")
      have hw : ¬ Txt.stripChars p (Str.ofString " ") = "" → Txt.stripChars p (Str.ofString " ") ∈ wordsS text := by
        intro hne
        rw [← split_words, List.mem_flatMap]
        exact ⟨p, List.mem_of_getElem? hp', by rw [finish_str, if_neg hne]; exact List.mem_singleton.mpr rfl⟩
      have hfl : fs.length ≤ text.length + 1 := by
        have q1 := allSome_len hs
        rw [List.length_map] at q1
        have q2 : ((((Txt.split text ⟨#[44]⟩).take i).flatMap fun p => finish (cs p))).length ≤ ((Txt.split text ⟨#[44]⟩).take i).length := flat_len _
        have q3 := split1_len (x := text) (s := 44) (by decide)
        rw [List.length_take] at q2
        omega
      fail "z"
      · rename_i hb1 hb2 _
        refine ⟨M, sameM_um ha, q_of k ?_ rfl⟩
        rw [rngs_none (hw hb1) hb2]
      · rename_i hb1 v hb2 _
        refine ⟨fs ++ [v], _, _, _, rfl, ?_, ?_⟩
        · rw [um_um, List.map_append]
          rfl
        · rw [take_succ hp', List.flatMap_append, List.flatMap_cons, List.flatMap_nil, finish_str, if_neg hb1, List.append_nil, List.map_append, List.map_cons, List.map_nil, hb2]
          exact allSome_snoc hs
      · rename_i hb1
        refine ⟨fs, _, _, _, rfl, rfl, ?_⟩
        rw [take_succ hp', List.flatMap_append, List.flatMap_cons, List.flatMap_nil, finish_str, if_pos hb1]
        simpa using hs
    · rintro Γ' M' ⟨fs, v2, v3, v4, rfl, rfl, hs⟩
      rw [List.length_map, List.length_map, List.take_length, split_words] at hs
      have hl := allSome_len hs
      rw [List.length_map] at hl
      fail "z"
      · rename_i hb1 hb2
        rw [List.length_map] at hb2
        refine ⟨M, sameM_um ha, q_of k ?_ rfl⟩
        rw [rngs_len (by omega)]
      · rename_i hb1 hb2
        rw [List.length_map] at hb1 hb2
        refine ⟨fs.map rgD, M, by rw [um_same, List.map_map]; rfl, ha, sameM_um ha, M, SameM.refl M, q_of k ?_ rfl⟩
        rw [rngs_some (by omega) (by omega), hs]
      · rename_i hb1 hb2
        rw [List.length_map] at hb1
        refine ⟨M, sameM_um ha, q_of k ?_ rfl⟩
        rw [rngs_len (by omega)]
local macro_rules | `(tactic| fail "zl") => `(tactic| with_reducible refine w_lst ?_)
theorem kS_l_ranges {text : Str} {rs : List Rg} {M : Ms} {Q : Ent → Ms → Prop} {X : Xa} (hr : rngs text = some rs) (h : text.length ≤ 100000) (q : Q (.d (.list (rs.map rgD))) M) : c_l_ranges [.d (.str text)] M Q X := k_l_ranges h (by rw [hr]; exact q)
theorem kN_l_ranges {text : Str} {M : Ms} {Q : Ent → Ms → Prop} {X : Xa} (hr : rngs text = none) (h : text.length ≤ 100000) (q : Q (.d .none) M) : c_l_ranges [.d (.str text)] M Q X := k_l_ranges h (by rw [hr]; exact q)
local macro_rules | `(tactic| fail "zk") => `(tactic| ((with_reducible refine kS_l_ranges (rs := ?rs) ?hr ?_ ?_); (case hr => with_reducible assumption)))
local macro_rules | `(tactic| fail "zk") => `(tactic| ((with_reducible refine kN_l_ranges ?hr ?_ ?_); (case hr => with_reducible assumption)))
local macro_rules | `(tactic| fail "zn") => `(tactic| ((with_reducible show ON _ _ _ _ _); with_reducible refine n_str7 ?_ ?_ ?_))
def c_l_element : ASp := fun es M Q X => ∃ (p : Addr), ∃ (most : Int), ∃ (odd : Bool), ∃ (ns : List Int), ∃ (i : Nat), ∃ (b : Int), ∃ (n : Int), ∃ (s : Int), es = [.r p, .d (.int most), .d (.bool odd)] ∧ (M p = some (Bg ns i b n s)) ∧ (1 ≤ most) ∧ (most ≤ 1000000) ∧ (∀ x i2 b2 n2, x.length ≤ 30 → Q (.d (.str x)) (um M p (Bg ns i2 b2 n2 s)))
theorem k_l_element {p : Addr} {most : Int} {odd : Bool} {ns : List Int} {i : Nat} {b : Int} {n : Int} {s : Int} {M : Ms} {Q : Ent → Ms → Prop} {X : Xa} (h1 : M p = some (Bg ns i b n s)) (h2 : 1 ≤ most) (h3 : most ≤ 1000000) (q : ∀ x i2 b2 n2, x.length ≤ 30 → Q (.d (.str x)) (um M p (Bg ns i2 b2 n2 s))) : c_l_element [.r p, .d (.int most), .d (.bool odd)] M Q X := ⟨p, most, odd, ns, i, b, n, s, rfl, h1, h2, h3, q⟩
theorem k2_l_element {p : Addr} {most : Int} {odd : Bool} {ns : List Int} {i : Nat} {b : Int} {n : Int} {s : Int} {M : Ms} {Q : Ent → Ms → Prop} {X : Xa} (h2 : 1 ≤ most) (h3 : most ≤ 1000000) (q : ∀ x i2 b2 n2, x.length ≤ 30 → Q (.d (.str x)) (um M p (Bg ns i2 b2 n2 s))) : c_l_element [.r p, .d (.int most), .d (.bool odd)] (um M p (Bg ns i b n s)) Q X := k_l_element (ns := ns) (i := i) (b := b) (n := n) (s := s) um_same h2 h3 (by simpa only [um_um] using q)
theorem sc_l_element : FnScope ["_law_source_here", "_law_most", "_law_odd_here", "_law_first", "_law_last", "_law_form"] ["_law_source_here", "_law_most", "_law_odd_here"] (defScope (topS 21)) := ⟨rfl, rfl, rfl, by decide +kernel, rfl, by decide +kernel, by decide +kernel⟩
theorem ca_l_element (T : Top fa fn K mg) : Ca P w K mg base "_law_element" (topS 21) 3 ["_law_source_here", "_law_most", "_law_odd_here"] c_l_element := by
  have sc := sc_l_element
  refine ca_of T 16 29 rfl rfl (fun _ _ _ _ _ _ us hl => match us, hl with | [_, _, _], _ => rfl) fun fd F => fn_ok F sc (fun es M Q X h => ?_) fun cdv A outer s H E hr => ⟨_, (pss_cons (ps_set (i := 3) sc.nd rfl (Or.inl rfl) (ke_ca (K := K) rfl (ca_l_draw (P := P) (w := w) (base := base) T) hr (by decide) rfl (pa_cons (pv 0) (pa_cons (pv 1) pa_nil))))
      (pss_cons (ps_set (i := 4) sc.nd rfl (Or.inl rfl) (ke_ca (K := K) rfl (ca_l_draw (P := P) (w := w) (base := base) T) hr (by decide) rfl (pa_cons (pv 0) (pa_cons (pv 1) pa_nil))))
      (pss_cons (ps_set (i := 5) sc.nd rfl (Or.inl rfl) (ke_ca (K := K) rfl (ca_l_draw (P := P) (w := w) (base := base) T) hr (by decide) rfl (pa_cons (pv 0) (pa_cons pe_int pa_nil))))
      (pss_cons (ps_if (PW.pt (pw_and (kt_tru (K := K) rfl (pv 2) (by intro _; rfl)) (pw_and1 (pt_cmpR (kEq (K := K) rfl hr.units) (ke_ca (K := K) rfl (ca_l_draw (P := P) (w := w) (base := base) T) hr (by decide) rfl (pa_cons (pv 0) (pa_cons pe_int pa_nil))) pe_int (nomark _))))) (pss_one (ps_ret (ke_ca (K := K) rfl (ca_l_odd (P := P) (w := w) (base := base) T) hr (by decide) rfl (pa_cons (pe_callTy call_str_int (by rfl) (T.free 28 rfl) (by decide +kernel) (pa_cons (pv 3) pa_nil)) (pa_cons (pe_callTy call_str_int (by rfl) (T.free 28 rfl) (by decide +kernel) (pa_cons (pv 4) pa_nil)) (pa_cons (ke_ca (K := K) rfl (ca_l_draw (P := P) (w := w) (base := base) T) hr (by decide) rfl (pa_cons (pv 0) (pa_cons pe_int pa_nil))) pa_nil)))))) pss_nil)
      (pss_cons (ps_if (PW.pt (pw_or (PW.pt (pw_and (pt_cmpR op_ltU (pv 5) pe_int (nomark _)) (pw_and1 (pt_cmpR op_leU (pv 3) (pv 4) (nomark _))))) (pw_or1 (PW.pt (pw_and (kt_tru (K := K) rfl (pv 2) (by intro _; rfl)) (pw_and1 (pt_cmpR (kEq (K := K) rfl hr.units) (pv 5) pe_int (nomark _)))))))) (pss_one (ps_ret (pe_op (kAdd (K := K) rfl) (pe_op (kAdd (K := K) rfl) (pe_callTy call_str_int (by rfl) (T.free 28 rfl) (by decide +kernel) (pa_cons (pv 3) pa_nil)) pe_str) (pe_callTy call_str_int (by rfl) (T.free 28 rfl) (by decide +kernel) (pa_cons (pv 4) pa_nil))))) pss_nil)
      (pss_cons (ps_if (pt_cmpR op_ltU (pv 5) pe_int (nomark _)) (pss_one (ps_ret (pe_op (kAdd (K := K) rfl) (pe_op (kAdd (K := K) rfl) (pe_callTy call_str_int (by rfl) (T.free 28 rfl) (by decide +kernel) (pa_cons (pv 4) pa_nil)) pe_str) (pe_callTy call_str_int (by rfl) (T.free 28 rfl) (by decide +kernel) (pa_cons (pv 3) pa_nil))))) pss_nil)
      (pss_cons (ps_if (pt_cmpR op_ltU (pv 5) pe_int (nomark _)) (pss_one (ps_ret (pe_op (kAdd (K := K) rfl) (pe_callTy call_str_int (by rfl) (T.free 28 rfl) (by decide +kernel) (pa_cons (pv 3) pa_nil)) pe_str))) pss_nil)
      (pss_cons (ps_if (pt_cmpR op_ltU (pv 5) pe_int (nomark _)) (pss_one (ps_ret (pe_op (kAdd (K := K) rfl) pe_str (pe_callTy call_str_int (by rfl) (T.free 28 rfl) (by decide +kernel) (pa_cons (pv 4) pa_nil))))) pss_nil)
      (pss_one (ps_ret pe_str)))))))))), fun es M Q X h => ?_⟩
  · obtain ⟨p, most, odd, ns, i, b, n, s, rfl, h1, h2, h3, k⟩ := h
    rfl
  · obtain ⟨p, most, odd, ns, i, b, n, s, rfl, h1, h2, h3, k⟩ := h
    try simp only [cx_K, cx_Kx]
    have zl0 : (Str.ofString "").length = 0 := by decide +kernel
    have zl1 : (Str.ofString "-").length = 1 := by decide +kernel
    cases odd
    · fail "z"
      all_goals refine k _ _ _ _ ?_
      all_goals (try simp only [len_app])
      all_goals omega
    · fail "z"
      all_goals refine k _ _ _ _ ?_
      all_goals (try simp only [len_app])
      all_goals omega
local macro_rules | `(tactic| fail "zk") => `(tactic| ((with_reducible refine k_l_element (ns := ?ns) (i := ?i) (b := ?b) (n := ?n) (s := ?s) ?hh0 ?_ ?_ ?_) ; (case hh0 => fail "zlook")))
local macro_rules | `(tactic| fail "zk") => `(tactic| with_reducible refine k2_l_element ?_ ?_ ?_)
local macro_rules | `(tactic| fail "zo") => `(tactic| ((with_reducible show O2 _ _ _ _ _ _); with_reducible refine o_ixSs ?_ ?_ ?_ ?_))
def c_l_bent : ASp := fun es M Q X => ∃ (p : Addr), ∃ (text : Str), ∃ (ns : List Int), ∃ (i : Nat), ∃ (b : Int), ∃ (n : Int), ∃ (s : Int), es = [.r p, .d (.str text)] ∧ (M p = some (Bg ns i b n s)) ∧ (text.length ≤ 200) ∧ (∀ x i2 b2 n2, x.length ≤ 200 → Q (.d (.str x)) (um M p (Bg ns i2 b2 n2 s)))
theorem k_l_bent {p : Addr} {text : Str} {ns : List Int} {i : Nat} {b : Int} {n : Int} {s : Int} {M : Ms} {Q : Ent → Ms → Prop} {X : Xa} (h1 : M p = some (Bg ns i b n s)) (h2 : text.length ≤ 200) (q : ∀ x i2 b2 n2, x.length ≤ 200 → Q (.d (.str x)) (um M p (Bg ns i2 b2 n2 s))) : c_l_bent [.r p, .d (.str text)] M Q X := ⟨p, text, ns, i, b, n, s, rfl, h1, h2, q⟩
theorem k2_l_bent {p : Addr} {text : Str} {ns : List Int} {i : Nat} {b : Int} {n : Int} {s : Int} {M : Ms} {Q : Ent → Ms → Prop} {X : Xa} (h2 : text.length ≤ 200) (q : ∀ x i2 b2 n2, x.length ≤ 200 → Q (.d (.str x)) (um M p (Bg ns i2 b2 n2 s))) : c_l_bent [.r p, .d (.str text)] (um M p (Bg ns i b n s)) Q X := k_l_bent (ns := ns) (i := i) (b := b) (n := n) (s := s) um_same h2 (by simpa only [um_um] using q)
theorem sc_l_bent : FnScope ["_law_source_here", "_law_wish_here", "_law_spot", "_law_char", "_law_way", "_law_rest", "_law_bent_here"] ["_law_source_here", "_law_wish_here"] (defScope (topS 23)) := ⟨rfl, rfl, rfl, by decide +kernel, rfl, by decide +kernel, by decide +kernel⟩
theorem ca_l_bent (T : Top fa fn K mg) : Ca P w K mg base "_law_bent" (topS 23) 3 ["_law_source_here", "_law_wish_here"] c_l_bent := by
  have sc := sc_l_bent
  refine ca_of T 17 30 rfl rfl (fun _ _ _ _ _ _ us hl => match us, hl with | [_, _], _ => rfl) fun fd F => fn_ok F sc (fun es M Q X h => ?_) fun cdv A outer s H E hr => ⟨_, (pss_cons (ps_set (i := 2) sc.nd rfl (Or.inl rfl) (ke_ca (K := K) rfl (ca_l_draw (P := P) (w := w) (base := base) T) hr (by decide) rfl (pa_cons (pv 0) (pa_cons (pe_op (kAdd (K := K) rfl) (pe_callB (kLen (K := K) rfl) (by rfl) (T.free 13 rfl) (by decide +kernel) (pa_cons (pv 1) pa_nil)) pe_int) pa_nil))))
      (pss_cons (ps_set (i := 3) sc.nd rfl (Or.inl rfl) (pe_ix (kIx (K := K) rfl) pe_str (ke_ca (K := K) rfl (ca_l_draw (P := P) (w := w) (base := base) T) hr (by decide) rfl (pa_cons (pv 0) (pa_cons pe_int pa_nil))) (fun _ _ => rfl)))
      (pss_cons (ps_set (i := 4) sc.nd rfl (Or.inl rfl) (ke_ca (K := K) rfl (ca_l_draw (P := P) (w := w) (base := base) T) hr (by decide) rfl (pa_cons (pv 0) (pa_cons pe_int pa_nil))))
      (pss_cons (ps_set (i := 5) sc.nd rfl (Or.inl rfl) (pe_slice (kSl (K := K) rfl) (pv 1) (po_some (pe_op (kAdd (K := K) rfl) (pv 2) pe_int)) po_none))
      (pss_cons (ps_if (pt_cmpR (kEq (K := K) rfl hr.units) (pv 4) pe_int (nomark _)) (pss_one (ps_set (i := 5) sc.nd rfl (Or.inl rfl) (pe_slice (kSl (K := K) rfl) (pv 1) (po_some (pv 2)) po_none))) pss_nil)
      (pss_cons (ps_if (pt_cmpR (kEq (K := K) rfl hr.units) (pv 4) pe_int (nomark _)) (pss_one (ps_set (i := 3) sc.nd rfl (Or.inl rfl) pe_str)) pss_nil)
      (pss_cons (ps_set (i := 6) sc.nd rfl (Or.inl rfl) (pe_op (kAdd (K := K) rfl) (pe_op (kAdd (K := K) rfl) (pe_slice (kSl (K := K) rfl) (pv 1) po_none (po_some (pv 2))) (pv 3)) (pv 5)))
      (pss_one (ps_ret (pe_m1 PySem.F.slot_str_strip PySem.F.type_str_strip mt_stripChars (pe_slice (kSl (K := K) rfl) (pv 6) po_none (po_some pe_int)) pe_str)))))))))), fun es M Q X h => ?_⟩
  · obtain ⟨p, text, ns, i, b, n, s, rfl, h1, h2, k⟩ := h
    rfl
  · obtain ⟨p, text, ns, i, b, n, s, rfl, h1, h2, k⟩ := h
    try simp only [cx_K, cx_Kx]
    have zl0 : (Str.ofString "0123456789-, x*").length = 15 := by decide +kernel
    have zl1 : (Str.ofString "").length = 0 := by decide +kernel
    have zl2 : (Str.ofString " ").length = 1 := by decide +kernel
    have hc : ∀ a b, (cutS text a b).length ≤ 200 := fun a b => Nat.le_trans (cut_len text a b) h2
    have h1c : ∀ c : Nat, (⟨#[c]⟩ : Str).length = 1 := fun _ => rfl
    fail "z"
    all_goals first
      | exact k _ _ _ _ (Nat.le_trans (strip_len _ _) (cut200 _))
      | exact Nat.le_trans (cut200 _) (by decide)
      | (simp only [len_app, h1c, zl1]; exact Nat.le_trans (Nat.add_le_add (Nat.add_le_add (hc _ _) (Nat.le_refl _)) (hc _ _)) (by decide))
      | (simp only [len_app, h1c, zl1]; exact Nat.le_trans (Nat.add_le_add (hc _ _) (Nat.le_refl _)) (by decide))
local macro_rules | `(tactic| fail "zk") => `(tactic| ((with_reducible refine k_l_bent (ns := ?ns) (i := ?i) (b := ?b) (n := ?n) (s := ?s) ?hh0 ?_ ?_) ; (case hh0 => fail "zlook")))
local macro_rules | `(tactic| fail "zk") => `(tactic| with_reducible refine k2_l_bent ?_ ?_)
local macro_rules | `(tactic| fail "znob") => `(tactic| exact noObj_rg _)
def c_l_same_ranges : ASp := fun es M Q X => ∃ (o : Option (List Rg)), es = [.d (orsD o), .d (orsD o)] ∧ (∀ rs, o = some rs → rs.length ≤ 1000) ∧ Q (.d (.bool true)) M
theorem k_l_same_ranges {o : Option (List Rg)} {M : Ms} {Q : Ent → Ms → Prop} {X : Xa} (h : ∀ rs, o = some rs → rs.length ≤ 1000) (q : Q (.d (.bool true)) M) : c_l_same_ranges [.d (orsD o), .d (orsD o)] M Q X := ⟨o, rfl, h, q⟩
theorem k_l_same_ranges2 {o : List Rg} {M : Ms} {Q : Ent → Ms → Prop} {X : Xa} (h : o.length ≤ 1000) (q : Q (.d (.bool true)) M) : c_l_same_ranges [.d (.list (o.map rgD)), .d (.list (o.map rgD))] M Q X := ⟨some o, rfl, fun rs e => by cases e; exact h, q⟩
theorem sc_l_same_ranges : FnScope ["_law_actual", "_law_expected", "_law_k", "_law_pair"] ["_law_actual", "_law_expected"] (defScope (topS 25)) := ⟨rfl, rfl, rfl, by decide +kernel, rfl, by decide +kernel, by decide +kernel⟩
theorem ca_l_same_ranges (T : Top fa fn K mg) : Ca P w K mg base "_law_same_ranges" (topS 25) 3 ["_law_actual", "_law_expected"] c_l_same_ranges := by
  have sc := sc_l_same_ranges
  refine ca_of T 18 31 rfl rfl (fun _ _ _ _ _ _ us hl => match us, hl with | [_, _], _ => rfl) fun fd F => fn_ok F sc (fun es M Q X h => ?_) fun cdv A outer s H E hr => ⟨_, (pss_cons (ps_if (pt_cmpR op_isN1 (pv 1) pe_non (nomark _)) (pss_one (ps_ret (pe_cmpR op_isN1 (pv 0) pe_non (nomark _)))) pss_nil)
      (pss_cons (ps_if (PW.pt (pw_or (pt_not (kt_tru (K := K) rfl (pe_callB (kIsi (K := K) rfl) (by rfl) (T.free 10 rfl) (by decide +kernel) (pa_cons (pv 0) (pa_cons (pe_bltn (v := .ty "list") (by rfl) (T.free 6 rfl) PyProof.Rows.boot_list rfl) pa_nil))) (by intro _; rfl))) (pw_or1 (pt_cmpR (kNe (K := K) rfl hr.units) (pe_callB (kLen (K := K) rfl) (by rfl) (T.free 13 rfl) (by decide +kernel) (pa_cons (pv 0) pa_nil)) (pe_callB (kLen (K := K) rfl) (by rfl) (T.free 13 rfl) (by decide +kernel) (pa_cons (pv 1) pa_nil)) (nomark _))))) (pss_one (ps_ret pe_bl)) pss_nil)
      (pss_cons (ps_for PassesOwn.never rfl (pi_range1 (by rfl) (T.free 21 rfl) (pa_cons (pe_callB (kLen (K := K) rfl) (by rfl) (T.free 13 rfl) (by decide +kernel) (pa_cons (pv 1) pa_nil)) pa_nil)) (pg_name (i := 2) sc.nd rfl (Or.inl rfl)) (pss_cons (ps_set (i := 3) sc.nd rfl (Or.inl rfl) (pe_ix (kIx (K := K) rfl) (pv 0) (pv 2) (fun _ _ => rfl)))
      (pss_cons (ps_if (PW.pt (pw_or (pt_not (kt_tru (K := K) rfl (pe_callB (kIsi (K := K) rfl) (by rfl) (T.free 10 rfl) (by decide +kernel) (pa_cons (pv 3) (pa_cons (pe_bltn (v := .ty "tuple") (by rfl) (T.free 22 rfl) PyProof.Rows.boot_tuple rfl) pa_nil))) (by intro _; rfl))) (pw_or1 (pt_cmpR (kNe (K := K) rfl hr.units) (pe_callB (kLen (K := K) rfl) (by rfl) (T.free 13 rfl) (by decide +kernel) (pa_cons (pv 3) pa_nil)) pe_int (nomark _))))) (pss_one (ps_ret pe_bl)) pss_nil)
      (pss_one (ps_if (PW.pt (pw_or (pt_not (kt_tru (K := K) rfl (ke_ca (K := K) rfl (ca_l_same_side (P := P) (w := w) (base := base) T) hr (by decide) rfl (pa_cons (pe_ix (kIx (K := K) rfl) (pv 3) pe_int (fun _ _ => rfl)) (pa_cons (pe_ix (kIx (K := K) rfl) (pe_ix (kIx (K := K) rfl) (pv 1) (pv 2) (fun _ _ => rfl)) pe_int (fun _ _ => rfl)) pa_nil))) (by intro _; rfl))) (pw_or1 (pt_not (kt_tru (K := K) rfl (ke_ca (K := K) rfl (ca_l_same_side (P := P) (w := w) (base := base) T) hr (by decide) rfl (pa_cons (pe_ix (kIx (K := K) rfl) (pv 3) pe_int (fun _ _ => rfl)) (pa_cons (pe_ix (kIx (K := K) rfl) (pe_ix (kIx (K := K) rfl) (pv 1) (pv 2) (fun _ _ => rfl)) pe_int (fun _ _ => rfl)) pa_nil))) (by intro _; rfl)))))) (pss_one (ps_ret pe_bl)) pss_nil)))))
      (pss_one (ps_ret pe_bl))))), fun es M Q X h => ?_⟩
  · obtain ⟨o, rfl, h0, k⟩ := h
    rfl
  · obtain ⟨o, rfl, h0, k⟩ := h
    try simp only [cx_K, cx_Kx]
    cases o with
    | none =>
      fail "z"
    | some rs =>
      have h1 := h0 rs rfl
      dsimp only [orsD]
      fail "z"
      refine s_for ?_
      fail "z"
      refine ⟨fun t Γ' M' => M' = M ∧ ∃ v2 v3, Γ' = [some (.d (.list (rs.map rgD))), some (.d (.list (rs.map rgD))), v2, v3], ⟨rfl, _, _, rfl⟩, fun _ _ _ _ _ => trivial, ?_, ?_⟩
      · rintro t e Γ' M' he ⟨rfl, v2, v3, rfl⟩
        obtain ⟨ht, rfl⟩ := rgE_get he
        have ht' : t < rs.length := by simpa using ht
        have hat := atI_nat' (xs := rs.map rgD) (i := 0 + (t : Int)) (x := rgD rs[t]) (by omega) (by rw [show (0 + (t : Int)).toNat = t by omega, List.getElem?_map, List.getElem?_eq_getElem ht']; rfl)
        fail "z"
        all_goals exact ⟨rfl, _, _, rfl⟩
      · rintro Γ' M' ⟨rfl, v2, v3, rfl⟩
        fail "z"
        all_goals exact k
theorem kN_l_same_ranges {M : Ms} {Q : Ent → Ms → Prop} {X : Xa} (q : Q (.d (.bool true)) M) : c_l_same_ranges [.d .none, .d .none] M Q X := by
  refine ⟨none, rfl, ?_, q⟩
  intro rs e
  cases e
local macro_rules | `(tactic| fail "zk") => `(tactic| with_reducible refine kN_l_same_ranges ?_)
local macro_rules | `(tactic| fail "zk") => `(tactic| with_reducible refine k_l_same_ranges2 ?_ ?_)
local macro_rules | `(tactic| fail "zl") => `(tactic| with_reducible refine w_lstM ?_)
def c_l_totals : ASp := fun es M Q X => ∃ (p : Addr), ∃ (rs : List Rg), ∃ (ns : List Int), ∃ (i : Nat), ∃ (b : Int), ∃ (n : Int), ∃ (s : Int), es = [.r p, .d (.list (rs.map rgD))] ∧ (M p = some (Bg ns i b n s)) ∧ (1 ≤ rs.length) ∧ (rs.length ≤ 20) ∧ (∀ (ts : List Int) (i2 : Nat) (b2 n2 : Int), ts.length ≤ 5 → Q (.d (.list (ts.map PyData.int))) (um M p (Bg ns i2 b2 n2 s)))
theorem k_l_totals {p : Addr} {rs : List Rg} {ns : List Int} {i : Nat} {b : Int} {n : Int} {s : Int} {M : Ms} {Q : Ent → Ms → Prop} {X : Xa} (h1 : M p = some (Bg ns i b n s)) (h2 : 1 ≤ rs.length) (h3 : rs.length ≤ 20) (q : ∀ (ts : List Int) (i2 : Nat) (b2 n2 : Int), ts.length ≤ 5 → Q (.d (.list (ts.map PyData.int))) (um M p (Bg ns i2 b2 n2 s))) : c_l_totals [.r p, .d (.list (rs.map rgD))] M Q X := ⟨p, rs, ns, i, b, n, s, rfl, h1, h2, h3, q⟩
theorem k2_l_totals {p : Addr} {rs : List Rg} {ns : List Int} {i : Nat} {b : Int} {n : Int} {s : Int} {M : Ms} {Q : Ent → Ms → Prop} {X : Xa} (h2 : 1 ≤ rs.length) (h3 : rs.length ≤ 20) (q : ∀ (ts : List Int) (i2 : Nat) (b2 n2 : Int), ts.length ≤ 5 → Q (.d (.list (ts.map PyData.int))) (um M p (Bg ns i2 b2 n2 s))) : c_l_totals [.r p, .d (.list (rs.map rgD))] (um M p (Bg ns i b n s)) Q X := k_l_totals (ns := ns) (i := i) (b := b) (n := n) (s := s) um_same h2 h3 (by simpa only [um_um] using q)
theorem sc_l_totals : FnScope ["_law_source_here", "_law_found", "_law_totals_here", "_law_one", "_law_side", "_law_total"] ["_law_source_here", "_law_found"] (defScope (topS 27)) := ⟨rfl, rfl, rfl, by decide +kernel, rfl, by decide +kernel, by decide +kernel⟩
theorem ca_l_totals (T : Top fa fn K mg) : Ca P w K mg base "_law_totals" (topS 27) 3 ["_law_source_here", "_law_found"] c_l_totals := by
  have sc := sc_l_totals
  refine ca_of T 19 32 rfl rfl (fun _ _ _ _ _ _ us hl => match us, hl with | [_, _], _ => rfl) fun fd F => fn_ok F sc (fun es M Q X h => ?_) fun cdv A outer s H E hr => ⟨_, (pss_cons (ps_set (i := 2) sc.nd rfl (Or.inl rfl) (pe_lst (pa_cons pe_int (pa_cons pe_int (pa_cons (ke_ca (K := K) rfl (ca_l_draw (P := P) (w := w) (base := base) T) hr (by decide) rfl (pa_cons (pv 0) (pa_cons pe_int pa_nil))) pa_nil)))))
      (pss_cons (ps_set (i := 3) sc.nd rfl (Or.inl rfl) (pe_ix (kIx (K := K) rfl) (pv 1) (ke_ca (K := K) rfl (ca_l_draw (P := P) (w := w) (base := base) T) hr (by decide) rfl (pa_cons (pv 0) (pa_cons (pe_callB (kLen (K := K) rfl) (by rfl) (T.free 13 rfl) (by decide +kernel) (pa_cons (pv 1) pa_nil)) pa_nil))) (fun _ _ => rfl)))
      (pss_cons (ps_for PassesOwn.never rfl (ki_tup (K := K) rfl (pv 3)) (pg_name (i := 4) sc.nd rfl (Or.inl rfl)) (pss_one (ps_if (pt_cmpR op_notN1 (pv 4) pe_non (nomark _)) (pss_cons (ps_set (i := 5) sc.nd rfl (Or.inl rfl) (pe_op (kAdd (K := K) rfl) (pv 4) (ke_ca (K := K) rfl (ca_l_draw (P := P) (w := w) (base := base) T) hr (by decide) rfl (pa_cons (pv 0) (pa_cons pe_int pa_nil)))))
      (pss_one (ps_if (pt_cmpR op_leU (pv 5) pe_int (nomark _)) (pss_one (ps_expr (pe_bm PySem.F.plainAttrs_list PySem.F.slot_list_append PySem.F.type_list_append mt_append (pv 2) (pa_cons (pv 5) pa_nil)))) pss_nil))) pss_nil)))
      (pss_one (ps_ret (pv 2)))))), fun es M Q X h => ?_⟩
  · obtain ⟨p, rs, ns, i, b, n, s, rfl, h1, h2, h3, k⟩ := h
    rfl
  · obtain ⟨p, rs, ns, i, b, n, s, rfl, h1, h2, h3, k⟩ := h
    try simp only [cx_K, cx_Kx]
    rw [show M = um M p (Bg ns i b n s) from (um_id h1).symm]
    fail "z"
    rename_i d0 _ _ _ _ _ a ha
    obtain ⟨nap, ha0⟩ := ne_of_um ha
    rw [um_comm (Ne.symm nap)]
    fail "z"
    rename_i d i4 b4 n4 q1 q2
    rw [List.length_map] at q2
    refine o_ixL (d := rgD (rs[d.toNat]'(by omega))) (atI_nat' q1 (by rw [List.getElem?_map, List.getElem?_eq_getElem (by omega)]; rfl)) ?_
    generalize (rs[d.toNat]'(by omega)) = r
    fail "z"
    refine s_for ?_
    fail "z"
    refine ⟨fun t Γ' M' => ∃ (ts : List Int) (i5 : Nat) (b5 n5 : Int) (v4 v5 : Option Ent), Γ' = [some (.r p), some (.d (.list (rs.map rgD))), some (.r a), some (.d (rgD r)), v4, v5] ∧ M' = um (um M a (.lst (ts.map fun y => Ent.d (.int y)))) p (Bg ns i5 b5 n5 s) ∧ ts.length ≤ 3 + t, ⟨[0, 1, d0], _, _, _, _, _, rfl, rfl, Nat.le_refl _⟩, fun _ _ _ _ _ => trivial, ?_, ?_⟩
    · rintro t e Γ' M' he ⟨ts, i5, b5, n5, v4, v5, rfl, rfl, hl⟩
      have ht : t < 2 := (List.getElem?_eq_some_iff.mp he).1
      have ho : ∃ o : Option Int, e = .d (oi o) := by
        rcases (show t = 0 ∨ t = 1 by omega) with rfl | rfl
        · exact ⟨r.1, (Option.some.inj he).symm⟩
        · exact ⟨r.2, (Option.some.inj he).symm⟩
      obtain ⟨o, rfl⟩ := ho
      cases o with
      | none =>
        fail "z"
        exact ⟨ts, _, _, _, _, _, rfl, rfl, by omega⟩
      | some v =>
        fail "z"
        · refine ⟨ts ++ [_], _, _, _, _, _, rfl, (by rw [List.map_append, um_swap nap]; rfl), ?_⟩
          rw [List.length_append]
          exact Nat.add_le_add_right hl 1
        · exact ⟨ts, _, _, _, _, _, rfl, rfl, by omega⟩
    · rintro Γ' M' ⟨ts, i5, b5, n5, v4, v5, rfl, rfl, hl⟩
      fail "z"
      refine ⟨ts.map PyData.int, um M p (Bg ns i5 b5 n5 s), by rw [um_ne nap, um_same, List.map_map]; rfl, by rw [um_ne nap]; exact ha0, sameM_two ha0 nap, ?_⟩
      exact k _ _ _ _ hl
local macro_rules | `(tactic| fail "zl") => `(tactic| with_reducible refine w_lst ?_)
local macro_rules | `(tactic| fail "zk") => `(tactic| ((with_reducible refine k_l_totals (ns := ?ns) (i := ?i) (b := ?b) (n := ?n) (s := ?s) ?hh0 ?_ ?_ ?_) ; (case hh0 => fail "zlook")))
local macro_rules | `(tactic| fail "zk") => `(tactic| with_reducible refine k2_l_totals ?_ ?_ ?_)
def c_read_ranges : ASp := fun es M Q X => ∃ (text : Str), es = [.d (.str text)] ∧ (text.length ≤ 100000) ∧ (Q (.d (orsD (rngs text))) M)
theorem k_read_ranges {text : Str} {M : Ms} {Q : Ent → Ms → Prop} {X : Xa} (h1 : text.length ≤ 100000) (q : Q (.d (orsD (rngs text))) M) : c_read_ranges [.d (.str text)] M Q X := ⟨text, rfl, h1, q⟩
theorem sc_read_ranges : FnScope ["text", "written", "ranges", "one"] ["text"] (defScope (topS 9)) := ⟨rfl, rfl, rfl, by decide +kernel, rfl, by decide +kernel, by decide +kernel⟩
theorem ca_read_ranges (T : Top fa fn K mg) : Ca P w K mg base "read_ranges" (topS 9) 4 ["text"] c_read_ranges := by
  have sc := sc_read_ranges
  refine ca_of T 20 35 rfl rfl (fun _ _ _ _ _ _ us hl => match us, hl with | [_], _ => rfl) fun fd F => fn_ok F sc (fun es M Q X h => ?_) fun cdv A outer s H E hr => ⟨_, (pss_cons (ps_set (i := 1) sc.nd rfl (Or.inl rfl) (ke_ca (K := K) rfl (ca_list_elements (P := P) (w := w) (base := base) T) hr (by decide) rfl (pa_cons (pv 0) pa_nil)))
      (pss_cons (ps_if (pt_not (pt_chain op_leU op_leU pe_int (pe_callB (kLen (K := K) rfl) (by rfl) (T.free 13 rfl) (by decide +kernel) (pa_cons (pv 1) pa_nil)) (C8.pe_gc rfl (T.int 34 rfl)))) (pss_one (ps_ret pe_non)) pss_nil)
      (pss_cons (ps_setLc (i := 2) (own := [("one", 3)]) (g := (gName 3)) (tt := tYes) rfl sc.nd rfl rfl (sw_true rfl rfl rfl (by decide +kernel)) (ki_list (K := K) rfl (pv 1)) (blkOk_by (own := [("one", 3)]) (N := ["text", "written", "ranges", "one"]) (sc := defScope (topS 9)) (by decide +kernel)) (fun _ _ _ _ _ => (pg_name (i := 3) sc.nd rfl (Or.inl rfl))) (fun _ _ _ _ _ => pts_nil) (fun _ _ _ _ _ => (ke_ca (K := K) rfl (ca_read_range (P := P) (w := w) (base := base) T) hr (by decide) rfl (pa_cons (pv 3) pa_nil))))
      (pss_cons (ps_if (kt_tru (K := K) rfl (pe_callB (kAny (K := K) rfl rfl) (by rfl) (T.free 33 rfl) (by decide +kernel) (pa_cons (pe_lc (own := [("one", 3)]) (g := (gName 3)) (tt := tYes) rfl sc.nd (ki_list (K := K) rfl (pv 2)) (blkOk_by (own := [("one", 3)]) (N := ["text", "written", "ranges", "one"]) (sc := defScope (topS 9)) (by decide +kernel)) (fun _ _ _ _ _ => (pg_name (i := 3) sc.nd rfl (Or.inl rfl))) (fun _ _ _ _ _ => pts_nil) (fun _ _ _ _ _ => (pe_cmpR op_isN1 (pv 3) pe_non (nomark _)))) pa_nil)) (by intro _; rfl)) (pss_one (ps_ret pe_non)) pss_nil)
      (pss_one (ps_ret (pv 2))))))), fun es M Q X h => ?_⟩
  · obtain ⟨text, rfl, h1, k⟩ := h
    rfl
  · obtain ⟨text, rfl, h1, k⟩ := h
    try simp only [cx_K, cx_Kx]
    have hn := words_num text
    fail "z"
    · rename_i hb1 hb2
      rw [List.length_map] at hb2
      refine q_of k ?_ rfl
      rw [rngs_len (by omega)]
    · rename_i hb1 hb2
      rw [List.length_map] at hb1 hb2
      refine w_lcf (wordsS text) (fun w => Ent.d (.str w)) (fun _ => true) (fun w => orD (rng w)) (wp_name (by simp)) ?_
      fail "z"
      refine ⟨by rw [List.map_map]; rfl, rfl, Nat.le_trans hn (show text.length + 1 ≤ sizeLine from Nat.le_trans (show text.length + 1 ≤ 100001 by omega) (by decide)), trivial, fun x hx => ?_, ?_⟩
      · have hxl := words_len hx
        fail "z"
        refine ⟨rfl, fun B b => ?_, fun _ R r => ?_⟩
        · fail "z"
        · fail "z"
          all_goals refine q_of r ?_ rfl
          all_goals simp_all [orD]
      · rw [List.filter_eq_self.mpr (fun _ _ => rfl)]
        fail "z"
        refine w_lcf (wordsS text) (fun w => Ent.d (orD (rng w))) (fun _ => true) (fun w => .bool (rng w).isNone) (wp_name (by simp)) ?_
        fail "z"
        refine ⟨by rw [List.map_map]; rfl, rfl, Nat.le_trans hn (show text.length + 1 ≤ sizeLine from Nat.le_trans (show text.length + 1 ≤ 100001 by omega) (by decide)), trivial, fun x hx => ?_, ?_⟩
        · fail "z"
          refine ⟨rfl, fun B b => ?_, fun _ R r => ?_⟩
          · fail "z"
          · fail "z"
            refine q_of r ?_ rfl
            cases rng x <;> rfl
        · rw [List.filter_eq_self.mpr (fun _ _ => rfl)]
          fail "z"
          rw [show (wordsS text).map (fun w => PyData.bool (rng w).isNone) = ((wordsS text).map fun w => (rng w).isNone).map PyData.bool by rw [List.map_map]; rfl]
          refine n_any ?_
          fail "z"
          · rename_i hb
            refine q_of k ?_ rfl
            rw [List.any_map, List.any_eq_true] at hb
            obtain ⟨x, hx, hn'⟩ := hb
            have hn2 : rng x = none := Option.isNone_iff_eq_none.mp hn'
            rw [rngs_none hx hn2]
          · rename_i hb
            refine q_of k ?_ rfl
            have ha : ((wordsS text).all fun x => (rng x).isSome) = true := by
              rw [List.all_eq_true]
              intro x hx
              rw [List.any_map, List.any_eq_false] at hb
              have := hb x hx
              cases e : rng x with
              | none => exact absurd (show (rng x).isNone = true by rw [e]; rfl) this
              | some v => rfl
            rw [rngs_some (by omega) (by omega), allSome_map, if_pos ha, all_map ha]
    · rename_i hb1 hb2
      rw [List.length_map] at hb1
      refine q_of k ?_ rfl
      rw [rngs_len (by omega)]
theorem kS_read_ranges {text : Str} {rs : List Rg} {M : Ms} {Q : Ent → Ms → Prop} {X : Xa} (hr : rngs text = some rs) (h : text.length ≤ 100000) (q : Q (.d (.list (rs.map rgD))) M) : c_read_ranges [.d (.str text)] M Q X := k_read_ranges h (by rw [hr]; exact q)
theorem kN_read_ranges {text : Str} {M : Ms} {Q : Ent → Ms → Prop} {X : Xa} (hr : rngs text = none) (h : text.length ≤ 100000) (q : Q (.d .none) M) : c_read_ranges [.d (.str text)] M Q X := k_read_ranges h (by rw [hr]; exact q)
local macro_rules | `(tactic| fail "zk") => `(tactic| ((with_reducible refine kS_read_ranges (rs := ?rs) ?hr ?_ ?_); (case hr => with_reducible assumption)))
local macro_rules | `(tactic| fail "zk") => `(tactic| ((with_reducible refine kN_read_ranges ?hr ?_ ?_); (case hr => with_reducible assumption)))
local macro_rules | `(tactic| fail "zo") => `(tactic| ((with_reducible show O2 _ _ _ _ _ _); (with_reducible refine o_ixTs (xs := ?xs) (n := 3) ?hx ?h0 ?h1 ?hB ?_); (case hx => rfl); (case hB => decide +kernel); (case h0 => assumption); (case h1 => (show _ < (6 : Int)); assumption)))
def c_l_wish : ASp := fun es M Q X => ∃ (p : Addr), ∃ (most : Int), ∃ (ns : List Int), ∃ (i : Nat), ∃ (b : Int), ∃ (n : Int), ∃ (s : Int), es = [.r p, .d (.int most)] ∧ (M p = some (Bg ns i b n s)) ∧ (1 ≤ most) ∧ (most ≤ 1000000) ∧ (∀ x i2 b2 n2, x.length ≤ 200 → Q (.d (.str x)) (um M p (Bg ns i2 b2 n2 s)))
theorem k_l_wish {p : Addr} {most : Int} {ns : List Int} {i : Nat} {b : Int} {n : Int} {s : Int} {M : Ms} {Q : Ent → Ms → Prop} {X : Xa} (h1 : M p = some (Bg ns i b n s)) (h2 : 1 ≤ most) (h3 : most ≤ 1000000) (q : ∀ x i2 b2 n2, x.length ≤ 200 → Q (.d (.str x)) (um M p (Bg ns i2 b2 n2 s))) : c_l_wish [.r p, .d (.int most)] M Q X := ⟨p, most, ns, i, b, n, s, rfl, h1, h2, h3, q⟩
theorem k2_l_wish {p : Addr} {most : Int} {ns : List Int} {i : Nat} {b : Int} {n : Int} {s : Int} {M : Ms} {Q : Ent → Ms → Prop} {X : Xa} (h2 : 1 ≤ most) (h3 : most ≤ 1000000) (q : ∀ x i2 b2 n2, x.length ≤ 200 → Q (.d (.str x)) (um M p (Bg ns i2 b2 n2 s))) : c_l_wish [.r p, .d (.int most)] (um M p (Bg ns i b n s)) Q X := k_l_wish (ns := ns) (i := i) (b := b) (n := n) (s := s) um_same h2 h3 (by simpa only [um_um] using q)
theorem sc_l_wish : FnScope ["_law_source_here", "_law_most", "_law_odd_here", "_law_count", "_law_wish_here", "_law_turn", "_law_element_here"] ["_law_source_here", "_law_most"] (defScope (topS 22)) := ⟨rfl, rfl, rfl, by decide +kernel, rfl, by decide +kernel, by decide +kernel⟩
theorem ca_l_wish (T : Top fa fn K mg) : Ca P w K mg base "_law_wish" (topS 22) 4 ["_law_source_here", "_law_most"] c_l_wish := by
  have sc := sc_l_wish
  refine ca_of T 21 36 rfl rfl (fun _ _ _ _ _ _ us hl => match us, hl with | [_, _], _ => rfl) fun fd F => fn_ok F sc (fun es M Q X h => ?_) fun cdv A outer s H E hr => ⟨_, (pss_cons (ps_set (i := 2) sc.nd rfl (Or.inl rfl) (pe_cmpR (kEq (K := K) rfl hr.units) (ke_ca (K := K) rfl (ca_l_draw (P := P) (w := w) (base := base) T) hr (by decide) rfl (pa_cons (pv 0) (pa_cons pe_int pa_nil))) pe_int (nomark _)))
      (pss_cons (ps_set (i := 3) sc.nd rfl (Or.inl rfl) (ke_ca (K := K) rfl (ca_l_draw (P := P) (w := w) (base := base) T) hr (by decide) rfl (pa_cons (pv 0) (pa_cons pe_int pa_nil))))
      (pss_cons (ps_if (pt_cmpR (kEq (K := K) rfl hr.units) (ke_ca (K := K) rfl (ca_l_draw (P := P) (w := w) (base := base) T) hr (by decide) rfl (pa_cons (pv 0) (pa_cons pe_int pa_nil))) pe_int (nomark _)) (pss_cons (ps_set (i := 3) sc.nd rfl (Or.inl rfl) (pe_op (kAdd (K := K) rfl) pe_int (ke_ca (K := K) rfl (ca_l_draw (P := P) (w := w) (base := base) T) hr (by decide) rfl (pa_cons (pv 0) (pa_cons pe_int pa_nil)))))
      (pss_one (ps_set (i := 1) sc.nd rfl (Or.inl rfl) pe_int))) pss_nil)
      (pss_cons (ps_set (i := 4) sc.nd rfl (Or.inl rfl) pe_str)
      (pss_cons (ps_for PassesOwn.never rfl (pi_range1 (by rfl) (T.free 21 rfl) (pa_cons (pv 3) pa_nil)) (pg_name (i := 5) sc.nd rfl (Or.inl rfl)) (pss_cons (ps_set (i := 6) sc.nd rfl (Or.inl rfl) (ke_ca (K := K) rfl (ca_l_element (P := P) (w := w) (base := base) T) hr (by decide) rfl (pa_cons (pv 0) (pa_cons (pv 1) (pa_cons (pv 2) pa_nil)))))
      (pss_cons (ps_if (pt_cmpR op_gtU (pv 5) pe_int (nomark _)) (pss_one (ps_set (i := 6) sc.nd rfl (Or.inl rfl) (pe_op (kAdd (K := K) rfl) (pe_ix (kIx (K := K) rfl) (pe_lst (pa_cons pe_str (pa_cons pe_str (pa_cons pe_str (pa_cons pe_str (pa_cons pe_str (pa_cons pe_str pa_nil))))))) (ke_ca (K := K) rfl (ca_l_draw (P := P) (w := w) (base := base) T) hr (by decide) rfl (pa_cons (pv 0) (pa_cons pe_int pa_nil))) (fun _ _ => rfl)) (pv 6)))) pss_nil)
      (pss_one (ps_if (pt_cmpR op_leU (pe_op (kAdd (K := K) rfl) (pe_callB (kLen (K := K) rfl) (by rfl) (T.free 13 rfl) (by decide +kernel) (pa_cons (pv 4) pa_nil)) (pe_callB (kLen (K := K) rfl) (by rfl) (T.free 13 rfl) (by decide +kernel) (pa_cons (pv 6) pa_nil))) pe_int (nomark _)) (pss_one (ps_set (i := 4) sc.nd rfl (Or.inl rfl) (pe_op (kAdd (K := K) rfl) (pv 4) (pv 6)))) pss_nil)))))
      (pss_one (ps_ret (pe_m1 PySem.F.slot_str_strip PySem.F.type_str_strip mt_stripChars (pv 4) pe_str)))))))), fun es M Q X h => ?_⟩
  · obtain ⟨p, most, ns, i, b, n, s, rfl, h1, h2, h3, k⟩ := h
    rfl
  · obtain ⟨p, most, ns, i, b, n, s, rfl, h1, h2, h3, k⟩ := h
    try simp only [cx_K, cx_Kx]
    have zl0 : (Str.ofString "").length = 0 := by decide +kernel
    have zl1 : (Str.ofString " ").length = 1 := by decide +kernel
    have zl2 : (Str.ofString ",").length = 1 := by decide +kernel
    have zl3 : (Str.ofString ", ").length = 2 := by decide +kernel
    have zl4 : (Str.ofString " , ").length = 3 := by decide +kernel
    have zl5 : (Str.ofString ",,").length = 2 := by decide +kernel
    have zl6 : (Str.ofString " ,").length = 2 := by decide +kernel
    have zl7 : (Str.ofString ", ,").length = 3 := by decide +kernel
    rw [show M = um M p (Bg ns i b n s) from (um_id h1).symm]
    fail "z"
    all_goals refine s_for ?_
    all_goals fail "z"
    all_goals refine ⟨fun t Γ' M' => ∃ (w : Str) (i3 : Nat) (b3 n3 : Int) (v5 v6 : Option Ent), Γ' = [some (.r p), some (.d (.int _)), some (.d (.bool _)), some (.d (.int _)), some (.d (.str w)), v5, v6] ∧ M' = um M p (Bg ns i3 b3 n3 s) ∧ w.length ≤ 200, ⟨_, _, _, _, _, _, rfl, rfl, by rw [zl0]; decide⟩, fun _ _ _ _ _ => trivial, ?_, ?_⟩
    all_goals first
      | (rintro Γ' M' ⟨w, i3, b3, n3, v5, v6, rfl, rfl, hw⟩
         fail "z"
         exact k _ _ _ _ (Nat.le_trans (strip_len _ _) hw))
      | (rintro t e Γ' M' he ⟨w, i3, b3, n3, v5, v6, rfl, rfl, hw⟩
         obtain ⟨ht, rfl⟩ := rgE_get he
         fail "z")
    all_goals first
      | exact ⟨w, _, _, _, _, _, rfl, rfl, hw⟩
      | (refine ⟨_, _, _, _, _, _, rfl, rfl, ?_⟩; rw [len_app]; omega)
      | (refine ⟨_, _, _, _, _, _, rfl, rfl, ?_⟩; rw [len_app, len_app]; omega)
      | skip
local macro_rules | `(tactic| fail "zk") => `(tactic| ((with_reducible refine k_l_wish (ns := ?ns) (i := ?i) (b := ?b) (n := ?n) (s := ?s) ?hh0 ?_ ?_ ?_) ; (case hh0 => fail "zlook")))
local macro_rules | `(tactic| fail "zk") => `(tactic| with_reducible refine k2_l_wish ?_ ?_ ?_)
def c_l_asks : ASp := fun es M Q X => ∃ (p : Addr), ∃ (text : Str), ∃ (named : Bool), ∃ (ns : List Int), ∃ (i : Nat), ∃ (b : Int), ∃ (n : Int), ∃ (s : Int), es = [.r p, .d (.str text), .d (.bool named)] ∧ (M p = some (Bg ns i b n s)) ∧ (text.length ≤ 200) ∧ (∀ i2 b2 n2, Q (.d (.bool true)) (um M p (Bg ns i2 b2 n2 s)))
theorem k_l_asks {p : Addr} {text : Str} {named : Bool} {ns : List Int} {i : Nat} {b : Int} {n : Int} {s : Int} {M : Ms} {Q : Ent → Ms → Prop} {X : Xa} (h1 : M p = some (Bg ns i b n s)) (h2 : text.length ≤ 200) (q : ∀ i2 b2 n2, Q (.d (.bool true)) (um M p (Bg ns i2 b2 n2 s))) : c_l_asks [.r p, .d (.str text), .d (.bool named)] M Q X := ⟨p, text, named, ns, i, b, n, s, rfl, h1, h2, q⟩
theorem k2_l_asks {p : Addr} {text : Str} {named : Bool} {ns : List Int} {i : Nat} {b : Int} {n : Int} {s : Int} {M : Ms} {Q : Ent → Ms → Prop} {X : Xa} (h2 : text.length ≤ 200) (q : ∀ i2 b2 n2, Q (.d (.bool true)) (um M p (Bg ns i2 b2 n2 s))) : c_l_asks [.r p, .d (.str text), .d (.bool named)] (um M p (Bg ns i b n s)) Q X := k_l_asks (ns := ns) (i := i) (b := b) (n := n) (s := s) um_same h2 (by simpa only [um_um] using q)
theorem sc_l_asks : FnScope ["_law_source_here", "_law_wish_here", "_law_named", "_law_due", "_law_actual", "_law_total", "_law_handed", "_law_resolved_here"] ["_law_source_here", "_law_wish_here", "_law_named"] (defScope (topS 28)) := ⟨rfl, rfl, rfl, by decide +kernel, rfl, by decide +kernel, by decide +kernel⟩
theorem ca_l_asks (T : Top fa fn K mg) : Ca P w K mg base "_law_asks" (topS 28) 5 ["_law_source_here", "_law_wish_here", "_law_named"] c_l_asks := by
  have sc := sc_l_asks
  refine ca_of T 22 37 rfl rfl (fun _ _ _ _ _ _ us hl => match us, hl with | [_, _, _], _ => rfl) fun fd F => fn_ok F sc (fun es M Q X h => ?_) fun cdv A outer s H E hr => ⟨_, (pss_cons (ps_set (i := 3) sc.nd rfl (Or.inl rfl) (ke_ca (K := K) rfl (ca_l_ranges (P := P) (w := w) (base := base) T) hr (by decide) rfl (pa_cons (pv 1) pa_nil)))
      (pss_cons (ps_if (kt_tru (K := K) rfl (pv 2) (by intro _; rfl)) (pss_one (ps_set (i := 4) sc.nd rfl (Or.inl rfl) (ke_caK0 (K := K) rfl (ca_read_ranges (P := P) (w := w) (base := base) T) ["text"] [0] hr (by decide) rfl (fun _ _ _ _ _ _ us ws h1 h2 => match us, ws, h1, h2 with | [], [_], _, _ => rfl) (pk_cons (pv 1) pk_nil)))) (pss_one (ps_set (i := 4) sc.nd rfl (Or.inl rfl) (ke_ca (K := K) rfl (ca_read_ranges (P := P) (w := w) (base := base) T) hr (by decide) rfl (pa_cons (pv 1) pa_nil)))))
      (pss_cons (ps_if (pt_not (kt_tru (K := K) rfl (ke_ca (K := K) rfl (ca_l_same_ranges (P := P) (w := w) (base := base) T) hr (by decide) rfl (pa_cons (pv 4) (pa_cons (pv 3) pa_nil))) (by intro _; rfl))) (pss_one (ps_ret pe_bl)) pss_nil)
      (pss_cons (ps_if (pt_cmpR op_isN1 (pv 3) pe_non (nomark _)) (pss_one (ps_ret pe_bl)) pss_nil)
      (pss_cons (ps_for PassesOwn.never rfl (ki_list (K := K) rfl (ke_ca (K := K) rfl (ca_l_totals (P := P) (w := w) (base := base) T) hr (by decide) rfl (pa_cons (pv 0) (pa_cons (pv 3) pa_nil)))) (pg_name (i := 5) sc.nd rfl (Or.inl rfl)) (pss_cons (ps_set (i := 6) sc.nd rfl (Or.inl rfl) (pe_callTy (kList (K := K) rfl) (by rfl) (T.free 6 rfl) (by decide +kernel) (pa_cons (pv 3) pa_nil)))
      (pss_cons (ps_if (kt_tru (K := K) rfl (pv 2) (by intro _; rfl)) (pss_one (ps_set (i := 7) sc.nd rfl (Or.inl rfl) (ke_caK0 (K := K) rfl (ca_resolve (P := P) (w := w) (base := base) T) ["ranges", "length"] [0, 1] hr (by decide) rfl (fun _ _ _ _ _ _ us ws h1 h2 => match us, ws, h1, h2 with | [], [_, _], _, _ => rfl) (pk_cons (pv 6) (pk_cons (pv 5) pk_nil))))) (pss_one (ps_set (i := 7) sc.nd rfl (Or.inl rfl) (ke_ca (K := K) rfl (ca_resolve (P := P) (w := w) (base := base) T) hr (by decide) rfl (pa_cons (pv 6) (pa_cons (pv 5) pa_nil))))))
      (pss_one (ps_if (PW.pt (pw_or (pt_not (kt_tru (K := K) rfl (ke_ca (K := K) rfl (ca_l_same_pairs (P := P) (w := w) (base := base) T) hr (by decide) rfl (pa_cons (pv 7) (pa_cons (ke_ca (K := K) rfl (ca_l_resolved (P := P) (w := w) (base := base) T) hr (by decide) rfl (pa_cons (pv 3) (pa_cons (pv 5) pa_nil))) pa_nil))) (by intro _; rfl))) (pw_or1 (pt_not (kt_tru (K := K) rfl (ke_ca (K := K) rfl (ca_l_same_ranges (P := P) (w := w) (base := base) T) hr (by decide) rfl (pa_cons (pv 6) (pa_cons (pv 3) pa_nil))) (by intro _; rfl)))))) (pss_one (ps_ret pe_bl)) pss_nil)))))
      (pss_one (ps_ret pe_bl))))))), fun es M Q X h => ?_⟩
  · obtain ⟨p, text, named, ns, i, b, n, s, rfl, h1, h2, k⟩ := h
    rfl
  · obtain ⟨p, text, named, ns, i, b, n, s, rfl, h1, h2, k⟩ := h
    try simp only [cx_K, cx_Kx]
    rw [show M = um M p (Bg ns i b n s) from (um_id h1).symm]
    cases hr : rngs text with
    | none =>
      cases named
      all_goals fail "z"
      all_goals exact k _ _ _
    | some rs =>
      obtain ⟨f1, f2, f3⟩ := rngs_facts hr
      have f4 : ∀ n : Int, (rs.flatMap (res1 n)).length ≤ 1000 := fun n => Nat.le_trans (res_len n rs) (by omega)
      cases named
      all_goals fail "z"
      all_goals refine s_for ?_
      all_goals fail "z"
      all_goals rename_i ts i5 b5 n5 hts
      all_goals refine ⟨fun t Γ' M' => ∃ (v5 v6 v7 : Option Ent), Γ' = [some (.r p), some (.d (.str text)), some (.d (.bool _)), some (.d (.list (rs.map rgD))), some (.d (.list (rs.map rgD))), v5, v6, v7] ∧ M' = um M p (Bg ns i5 b5 n5 s), ⟨_, _, _, rfl, rfl⟩, fun _ _ _ _ _ => trivial, ?_, ?_⟩
      all_goals first
        | (rintro Γ' M' ⟨v5, v6, v7, rfl, rfl⟩
           fail "z"
           exact k _ _ _)
        | (rintro t e Γ' M' he ⟨v5, v6, v7, rfl, rfl⟩
           obtain ⟨d, hd, rfl⟩ := map_get he
           obtain ⟨x, hx, rfl⟩ := map_get hd
           fail "z")
      all_goals first
        | exact ⟨_, _, _, rfl, rfl⟩
        | exact k _ _ _
        | exact f3 _ (by assumption)
        | exact f4 _
local macro_rules | `(tactic| fail "zk") => `(tactic| ((with_reducible refine k_l_asks (ns := ?ns) (i := ?i) (b := ?b) (n := ?n) (s := ?s) ?hh0 ?_ ?_) ; (case hh0 => fail "zlook")))
local macro_rules | `(tactic| fail "zk") => `(tactic| with_reducible refine k2_l_asks ?_ ?_)
def c_law : ASp := fun es M Q X => ∃ (ns : List Int), es = [.w (ns.map PyData.int)] ∧ (ns.length ≤ 63) ∧ (∀ M', Q (.d (.bool true)) M')
theorem k_law {ns : List Int} {M : Ms} {Q : Ent → Ms → Prop} {X : Xa} (h1 : ns.length ≤ 63) (q : ∀ M', Q (.d (.bool true)) M') : c_law [.w (ns.map PyData.int)] M Q X := ⟨ns, rfl, h1, q⟩
theorem sc_law : FnScope ["_law_script", "_law_source_here", "_law_wish_here", "_law_named"] ["_law_script"] (defScope (topS 29)) := ⟨rfl, rfl, rfl, by decide +kernel, rfl, by decide +kernel, by decide +kernel⟩
theorem ca_law (T : Top fa fn K mg) : Ca P w K mg base "law" (topS 29) 6 ["_law_script"] c_law := by
  have sc := sc_law
  refine ca_of T 23 38 rfl rfl (fun _ _ _ _ _ _ us hl => match us, hl with | [_], _ => rfl) fun fd F => fn_ok F sc (fun es M Q X h => ?_) fun cdv A outer s H E hr => ⟨_, (pss_cons (ps_set (i := 1) sc.nd rfl (Or.inl rfl) (ke_ca (K := K) rfl (ca_l_source (P := P) (w := w) (base := base) T) hr (by decide) rfl (pa_cons (pv 0) pa_nil)))
      (pss_cons (ps_set (i := 2) sc.nd rfl (Or.inl rfl) (ke_ca (K := K) rfl (ca_l_wish (P := P) (w := w) (base := base) T) hr (by decide) rfl (pa_cons (pv 1) (pa_cons (pe_ix (kIx (K := K) rfl) (pe_lst (pa_cons pe_int (pa_cons pe_int (pa_cons pe_int (pa_cons pe_int pa_nil))))) (ke_ca (K := K) rfl (ca_l_draw (P := P) (w := w) (base := base) T) hr (by decide) rfl (pa_cons (pv 1) (pa_cons pe_int pa_nil))) (fun _ _ => rfl)) pa_nil))))
      (pss_cons (ps_set (i := 3) sc.nd rfl (Or.inl rfl) (pe_cmpR (kEq (K := K) rfl hr.units) (ke_ca (K := K) rfl (ca_l_draw (P := P) (w := w) (base := base) T) hr (by decide) rfl (pa_cons (pv 1) (pa_cons pe_int pa_nil))) pe_int (nomark _)))
      (pss_cons (ps_if (pt_not (kt_tru (K := K) rfl (ke_ca (K := K) rfl (ca_l_asks (P := P) (w := w) (base := base) T) hr (by decide) rfl (pa_cons (pv 1) (pa_cons (pv 2) (pa_cons (pv 3) pa_nil)))) (by intro _; rfl))) (pss_one (ps_ret pe_bl)) pss_nil)
      (pss_one (ps_ret (ke_ca (K := K) rfl (ca_l_asks (P := P) (w := w) (base := base) T) hr (by decide) rfl (pa_cons (pv 1) (pa_cons (ke_ca (K := K) rfl (ca_l_bent (P := P) (w := w) (base := base) T) hr (by decide) rfl (pa_cons (pv 1) (pa_cons (pv 2) pa_nil))) (pa_cons (ke_not (K := K) rfl (pv 3)) pa_nil)))))))))), fun es M Q X h => ?_⟩
  · obtain ⟨ns, rfl, h1, k⟩ := h
    rfl
  · obtain ⟨ns, rfl, h1, k⟩ := h
    try simp only [cx_K, cx_Kx]
    fail "z"
    rename_i d _ _ _ q1 q2
    have hd : d = 0 ∨ d = 1 ∨ d = 2 ∨ d = 3 := by omega
    rcases hd with rfl | rfl | rfl | rfl
    · refine o_ixL (d := .int 12) rfl ?_
      fail "z"
      all_goals exact k _
    · refine o_ixL (d := .int 40) rfl ?_
      fail "z"
      all_goals exact k _
    · refine o_ixL (d := .int 300) rfl ?_
      fail "z"
      all_goals exact k _
    · refine o_ixL (d := .int 1000000) rfl ?_
      fail "z"
      all_goals exact k _
local macro_rules | `(tactic| fail "zk") => `(tactic| ((with_reducible refine k_law  ?_ ?_)))
end
abbrev R : PySem.W.OpenRow := PySem.W.OpenLaw.row PySem.Challenge.rw_hopkeep_k16_wanted_ranges
abbrev hk : PySem.W.Hook := He.hookD 4 fa fn
def ob (s : PySem.W.SharedT) : He.AlD := He.obsDG 4 fa fn (HandSHeadRun.getT s)
theorem ob_eq (s : PySem.W.SharedT) : ob s = hk.obs s.abs := He.obsDG_eq (HandSHeadRun.getT_eq s)
def loose : List PySem.Str := (["DIGITS", "MOST_DIGITS", "consists_of", "list_elements", "read_number", "MOST_RANGES", "read_range", "read_ranges", "resolve", "_law_source", "_law_mixed", "_law_draw", "_law_integer", "_law_same_pairs", "_law_number", "_law_range", "_law_ranges", "_law_odd", "_law_element", "_law_wish", "_law_bent", "_law_same_side", "_law_same_ranges", "_law_resolved", "_law_totals", "_law_asks"] : List PySem.Str)
theorem run (w : World) : HandSHeadRun.RunEq R (PySem.W.view R.prog [29]) hk ob 3000 loose w := by
  intro os
  kernel_rfl
end K16
open PySem PySem.W PySem.Calls PyProof.Rows
theorem PySem.Challenge.cw_hopkeep_k16_wanted_ranges_holds : PySem.Challenge.rw_hopkeep_k16_wanted_ranges.Holds := by
  w_on; o_law
  refine HandSHeadRun.head_any (r := OpenLaw.row PySem.Challenge.rw_hopkeep_k16_wanted_ranges) (q := view (OpenLaw.row PySem.Challenge.rw_hopkeep_k16_wanted_ranges).prog [29]) (H := K16.hk) (ob := K16.ob) (M := 3000) (loose := K16.loose) (d := HandSHeadRun.topDef (OpenLaw.row PySem.Challenge.rw_hopkeep_k16_wanted_ranges).prog 29) (kwd := []) K16.ob_eq
    (by kernel_rfl) (fun s => by kernel_rfl) K16.run (by kernel_rfl) (by kernel_rfl) (by kernel_rfl) (by rfl) (by first | assumption | decide +kernel) (by decide +kernel) ⟨rfl, rfl, rfl, rfl, rfl, by decide +kernel⟩ ?hw ?hc
  case hw => w_witness2
  case hc =>
    refine L2.walk_ofE (l := PySem.Challenge.rw_hopkeep_k16_wanted_ranges) (n := 63) (k := 6) (x := "_law_script") (CX := L2.CX0) rfl (by decide) (by kernel_rfl) ⟨rfl, by decide, by decide⟩ ?F (fun _ _ _ _ z => z)
    intro w mg fa h Y G hmg0
    obtain ⟨K, KX, c⟩ := Y
    have hmg : mg ("law" : PySem.Str) = some (.ref fa) := by
      have e : (HandSHeadRun.topDef (OpenLaw.row PySem.Challenge.rw_hopkeep_k16_wanted_ranges).prog 29).name = ("law" : PySem.Str) := by kernel_rfl
      rw [← e]
      exact hmg0
    obtain ⟨fd, hb, hF⟩ := Z.law_fn (P := PySem.Challenge.rw_hopkeep_k16_wanted_ranges.prog) (w := w) (k := 6) (c := K16.c_law) (x := "_law_script") KX G hmg ⟨h, KX, G, c⟩ (fun base T => K16.ca_law (base := base) T) (fun s v fd F => Z.law_binds F (fun _ _ _ _ _ _ us hl => match us, hl with | [_], _ => rfl) s v)
    exact ⟨K, fd, _, KX, hb, fun H a ns hl _ hS => Z.law_in hS (fun _ => rfl) fun Qa X hq => ⟨ns, rfl, hl, hq⟩, hF⟩
