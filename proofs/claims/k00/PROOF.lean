import PyProof.Rows.All
import Wide.All
import OpenK.AllK
import Wide.FinOn
import HandS.Base
import HandS.Call
import HandS.List
import HandS.Comp
import HandS.Dict
import HandS.Iter
import HandS.Text
import HandS.Walk
import HandS.Flow
import HandS.Words
import HandS.Defaults
import HandS.Steps
import HandS.StrMore
import HandS.FStr
import HandS.IsInst
import HandS.Codes
import HandS.Wide
import HandS.Conv
import HandS.StrSplit
import HandS.HeadEnd
import HandS.HeadHook1
import HandS.HeadHook2
import HandS.Head0
import HandS.Head1
import HandS.Head2
import HandS.WordsExc
import HandS.More
import KE.IntTextLaws
import PySem.Challenge.RW_hopkeep_k00_fields_read
set_option Elab.async false
set_option linter.all false
set_option maxRecDepth 100000
set_option maxHeartbeats 4000000
namespace Z
open PySem L2

/-! ## data that no longer changes: its reading in a part F of the heap -/
mutual
inductive Rp (K : PySem.W.Frag) (F : Hp) : V → PyData → Prop
  | non : Rp K F .non .none
  | bl (b : Bool) : Rp K F (.bl b) (.bool b)
  | int (i : Int) : Rp K F (.int i) (.int i)
  | str (x : Str) : Rp K F (.str x) (.str x)
  | lst {a : Addr} {xs : List V} {ds : List PyData} : F a = some (.lst xs) → RpAll K F xs ds → Rp K F (.ref a) (.list ds)
  | tup {a : Addr} {xs : List V} {ds : List PyData} : SqT K F a xs → RpAll K F xs ds → Rp K F (.ref a) (.tuple ds)
  | obj {a C dx : Addr} {vs : List (Str × V)} {fs : List (PyData × PyData)} : F a = some (.ins C dx vs) → RpFs K F vs fs → Rp K F (.ref a) (.dict ((.none, .int (C : Int)) :: fs))
inductive RpAll (K : PySem.W.Frag) (F : Hp) : List V → List PyData → Prop
  | nil : RpAll K F [] []
  | cons {v : V} {vs : List V} {d : PyData} {ds : List PyData} : Rp K F v d → RpAll K F vs ds → RpAll K F (v :: vs) (d :: ds)
inductive RpFs (K : PySem.W.Frag) (F : Hp) : List (Str × V) → List (PyData × PyData) → Prop
  | nil : RpFs K F [] []
  | cons {f : Str} {v : V} {vs : List (Str × V)} {d : PyData} {ds : List (PyData × PyData)} : Rp K F v d → RpFs K F vs ds → RpFs K F ((f, v) :: vs) ((.str f, d) :: ds)
end

/-- what a slot, an item, a field holds: data, an object that may still change, a list that is read only -/
inductive Ent where
  | d (x : PyData)
  | r (a : Addr)
  | w (x : List PyData)
  | t (n : String)

section
variable {K : PySem.W.Frag} {F F' F'' : Hp}
theorem sqT_mono (s : Same F F') {a : Addr} {xs : List V} (h : SqT K F a xs) : SqT K F' a xs := by
  rcases h with (h | ⟨o, h⟩) | h
  · exact .inl (.inl (s _ _ h))
  · exact .inl (.inr ⟨o, s _ _ h⟩)
  · exact .inr h
mutual
theorem Rp.mono (s : Same F F') : ∀ {v : V} {d : PyData}, Rp K F v d → Rp K F' v d
  | _, _, .non => .non
  | _, _, .bl b => .bl b
  | _, _, .int i => .int i
  | _, _, .str x => .str x
  | _, _, .lst h r => .lst (s _ _ h) (RpAll.mono s r)
  | _, _, .tup h r => .tup (sqT_mono s h) (RpAll.mono s r)
  | _, _, .obj h r => .obj (s _ _ h) (RpFs.mono s r)
theorem RpAll.mono (s : Same F F') : ∀ {vs : List V} {ds : List PyData}, RpAll K F vs ds → RpAll K F' vs ds
  | _, _, .nil => .nil
  | _, _, .cons h r => .cons (Rp.mono s h) (RpAll.mono s r)
theorem RpFs.mono (s : Same F F') : ∀ {vs : List (Str × V)} {ds : List (PyData × PyData)}, RpFs K F vs ds → RpFs K F' vs ds
  | _, _, .nil => .nil
  | _, _, .cons h r => .cons (Rp.mono s h) (RpFs.mono s r)
end
theorem RpAll.length : ∀ {vs : List V} {ds : List PyData}, RpAll K F vs ds → vs.length = ds.length
  | _, _, .nil => rfl
  | _, _, .cons _ r => congrArg Nat.succ (RpAll.length r)
theorem RpAll.get : ∀ {vs : List V} {ds : List PyData} {i : Nat} {v : V} {d : PyData}, RpAll K F vs ds → vs[i]? = some v → ds[i]? = some d → Rp K F v d
  | _, _, _, _, _, .nil, e, _ => by simp at e
  | _, _, 0, _, _, .cons h _, e1, e2 => by
    simp at e1 e2
    rw [← e1, ← e2]
    exact h
  | _, _, i + 1, _, _, .cons _ r, e1, e2 => RpAll.get (i := i) r (by simpa using e1) (by simpa using e2)
theorem RpAll.append : ∀ {vs ws : List V} {ds es : List PyData}, RpAll K F vs ds → RpAll K F ws es → RpAll K F (vs ++ ws) (ds ++ es)
  | _, _, _, _, .nil, q => q
  | _, _, _, _, .cons h r, q => .cons h (RpAll.append r q)
theorem RpAll.take : ∀ {vs : List V} {ds : List PyData} (n : Nat), RpAll K F vs ds → RpAll K F (vs.take n) (ds.take n)
  | _, _, 0, _ => .nil
  | _, _, _ + 1, .nil => .nil
  | _, _, n + 1, .cons h r => .cons h (RpAll.take n r)
theorem RpAll.drop : ∀ {vs : List V} {ds : List PyData} (n : Nat), RpAll K F vs ds → RpAll K F (vs.drop n) (ds.drop n)
  | _, _, 0, r => r
  | _, _, _ + 1, .nil => .nil
  | _, _, n + 1, .cons _ r => RpAll.drop n r
theorem RpAll.exGet {vs : List V} {ds : List PyData} {i : Nat} {d : PyData} (r : RpAll K F vs ds) (e : ds[i]? = some d) : ∃ v, vs[i]? = some v ∧ Rp K F v d := by
  have hi : i < vs.length := by
    rw [r.length]
    exact (List.getElem?_eq_some_iff.mp e).1
  exact ⟨vs[i], List.getElem?_eq_getElem hi, r.get (List.getElem?_eq_getElem hi) e⟩
theorem RpAll.ints : ∀ {vs : List V} {ns : List Int}, RpAll K F vs (ns.map PyData.int) → vs = ns.map V.int
  | _, [], .nil => rfl
  | _, n :: ns, .cons (.int _) r => congrArg (V.int n :: ·) (RpAll.ints r)
theorem RpAll.strs : ∀ {vs : List V} {ns : List Str}, RpAll K F vs (ns.map PyData.str) → vs = ns.map V.str
  | _, [], .nil => rfl
  | _, n :: ns, .cons (.str _) r => congrArg (V.str n :: ·) (RpAll.strs r)
theorem RpAll.bls : ∀ {vs : List V} {ns : List Bool}, RpAll K F vs (ns.map PyData.bool) → vs = ns.map V.bl
  | _, [], .nil => rfl
  | _, n :: ns, .cons (.bl _) r => congrArg (V.bl n :: ·) (RpAll.bls r)
theorem RpAll.ofInts : ∀ (ns : List Int), RpAll K F (ns.map V.int) (ns.map PyData.int)
  | [] => .nil
  | n :: ns => .cons (.int n) (RpAll.ofInts ns)
theorem RpAll.ofStrs : ∀ (ns : List Str), RpAll K F (ns.map V.str) (ns.map PyData.str)
  | [] => .nil
  | n :: ns => .cons (.str n) (RpAll.ofStrs ns)
theorem RpAll.ofBls : ∀ (ns : List Bool), RpAll K F (ns.map V.bl) (ns.map PyData.bool)
  | [] => .nil
  | n :: ns => .cons (.bl n) (RpAll.ofBls ns)

/-- no dict within (no object) -/
def flat : Nat → PyData → Bool
  | 0, _ => false
  | _ + 1, .list xs => false
  | _, .dict _ => false
  | _, _ => true
mutual
def noObj : PyData → Bool
  | .dict _ => false
  | .list xs => noObjs xs
  | .tuple xs => noObjs xs
  | _ => true
def noObjs : List PyData → Bool
  | [] => true
  | x :: r => noObj x && noObjs r
end
mutual
theorem Rp.dp : ∀ {v : V} {d : PyData}, Rp K F v d → noObj d = true → Dp K F v d
  | _, _, .non, _ => .non
  | _, _, .bl b, _ => .bl b
  | _, _, .int i, _ => .int i
  | _, _, .str x, _ => .str x
  | _, _, .lst h r, n => .lst (.inl (.inl h)) (RpAll.dp r n)
  | _, _, .tup h r, n => .tup h (RpAll.dp r n)
theorem RpAll.dp : ∀ {vs : List V} {ds : List PyData}, RpAll K F vs ds → noObjs ds = true → DpAll K F vs ds
  | _, _, .nil, _ => .nil
  | _, _, .cons h r, n => by
    have n2 : (_ && _) = true := n
    rw [Bool.and_eq_true] at n2
    exact .cons (Rp.dp h n2.1) (RpAll.dp r n2.2)
end
mutual
theorem dp_mono {H H' : Hp} (s : Same H H') : ∀ {v : V} {d : PyData}, Dp K H v d → Dp K H' v d
  | _, _, .non => .non
  | _, _, .bl b => .bl b
  | _, _, .int i => .int i
  | _, _, .str x => .str x
  | _, _, .lst h r => .lst (s.seq h) (dpAll_mono s r)
  | _, _, .tup h r => .tup (sqT_mono s h) (dpAll_mono s r)
theorem dpAll_mono {H H' : Hp} (s : Same H H') : ∀ {vs : List V} {ds : List PyData}, DpAll K H vs ds → DpAll K H' vs ds
  | _, _, .nil => .nil
  | _, _, .cons h r => .cons (dp_mono s h) (dpAll_mono s r)
end
end

/-! ## what a slot holds -/
def RE (K : PySem.W.Frag) (F : Hp) (v : V) : Ent → Prop
  | .d x => Rp K F v x
  | .r a => v = .ref a
  | .t n => v = .ty n
  | .w xs => ∃ a vs, v = .ref a ∧ SqL K F a vs ∧ RpAll K F vs xs
theorem RE.mono {K : PySem.W.Frag} {F F' : Hp} (s : Same F F') {v : V} : ∀ {e : Ent}, RE K F v e → RE K F' v e
  | .d _, h => Rp.mono s h
  | .r _, h => h
  | .t _, h => h
  | .w _, ⟨a, vs, e, h, r⟩ => ⟨a, vs, e, s.seq h, r.mono s⟩
abbrev REs (K : PySem.W.Frag) (F : Hp) : List V → List Ent → Prop := Paired (RE K F)
theorem REs.mono {K : PySem.W.Frag} {F F' : Hp} (s : Same F F') {vs : List V} {es : List Ent} (h : REs K F vs es) : REs K F' vs es := Paired.mapP h fun _ _ q => q.mono s
theorem REs.length {K : PySem.W.Frag} {F : Hp} {vs : List V} {es : List Ent} (h : REs K F vs es) : vs.length = es.length := Paired.length h
/-- a slot of a frame -/
def RO (K : PySem.W.Frag) (F : Hp) (o : Option V) : Option Ent → Prop
  | none => True
  | some e => ∃ v, o = some v ∧ RE K F v e
abbrev Ga := List (Option Ent)
abbrev EnvOk (K : PySem.W.Frag) (F : Hp) (σ : L2.St) (Γ : Ga) : Prop := Paired (RO K F) σ Γ
theorem EnvOk.mono {K : PySem.W.Frag} {F F' : Hp} (s : Same F F') {σ : L2.St} {Γ : Ga} (h : EnvOk K F σ Γ) : EnvOk K F' σ Γ := Paired.mapP h fun o g q => by
  cases g with
  | none => trivial
  | some e =>
    obtain ⟨v, e1, r⟩ := q
    exact ⟨v, e1, r.mono s⟩
theorem paired_get {α β : Type} {R : α → β → Prop} : ∀ {xs : List α} {ys : List β} {i : Nat} {y : β}, Paired R xs ys → ys[i]? = some y → ∃ x, xs[i]? = some x ∧ R x y
  | _, _, _, _, .nil, e => by simp at e
  | _, _, 0, y, .cons r _, e => by
    simp at e
    subst e
    exact ⟨_, rfl, r⟩
  | _, _, i + 1, y, .cons _ t, e => by
    obtain ⟨x, h1, h2⟩ := paired_get (i := i) (y := y) t (by simpa using e)
    exact ⟨x, by simpa using h1, h2⟩
theorem paired_set {α β : Type} {R : α → β → Prop} {x : α} {y : β} (r : R x y) : ∀ {xs : List α} {ys : List β} (i : Nat), Paired R xs ys → Paired R (xs.set i x) (ys.set i y)
  | _, _, _, .nil => .nil
  | _, _, 0, .cons _ t => .cons r t
  | _, _, i + 1, .cons q t => .cons q (paired_set r i t)
theorem EnvOk.set {K : PySem.W.Frag} {F : Hp} {σ : L2.St} {Γ : Ga} {v : V} {e : Ent} (h : EnvOk K F σ Γ) (i : Nat) (r : RE K F v e) : EnvOk K F (σ.set i (some v)) (Γ.set i (some e)) := paired_set (R := RO K F) (x := some v) (y := some e) ⟨v, rfl, r⟩ i h
theorem EnvOk.drop1 {K : PySem.W.Frag} {F : Hp} {σ : L2.St} {Γ : Ga} (h : EnvOk K F σ Γ) (i : Nat) : EnvOk K F σ (Γ.set i none) := by
  induction h generalizing i with
  | nil => exact .nil
  | cons q t ih =>
    cases i with
    | zero => exact .cons trivial t
    | succ i => exact .cons q (ih i)
theorem EnvOk.wipe1 {K : PySem.W.Frag} {F : Hp} {σ : L2.St} {Γ : Ga} (h : EnvOk K F σ Γ) (i : Nat) (o : Option V) : EnvOk K F (σ.set i o) (Γ.set i none) := paired_set (R := RO K F) (x := o) (y := none) trivial i h

/-! ## what may still change -/
inductive Mo where
  | lst (xs : List Ent)
  | ins (C : Addr) (fs : List (Str × Ent))
abbrev Ms := Addr → Option Mo
def MoOk (K : PySem.W.Frag) (F : Hp) : HO → Mo → Prop
  | .lst vs, .lst es => REs K F vs es
  | .ins C _ vs, .ins C' fs => C = C' ∧ Paired (fun (p : Str × V) (q : Str × Ent) => p.1 = q.1 ∧ RE K F p.2 q.2) vs fs
  | _, _ => False
theorem MoOk.mono {K : PySem.W.Frag} {F F' : Hp} (s : Same F F') : ∀ {o : HO} {m : Mo}, MoOk K F o m → MoOk K F' o m
  | .lst _, .lst _, h => REs.mono s h
  | .ins _ _ _, .ins _ _, ⟨e, h⟩ => ⟨e, Paired.mapP h fun _ _ q => ⟨q.1, q.2.mono s⟩⟩
  | .lst _, .ins _ _, h => h.elim
  | .ins _ _ _, .lst _, h => h.elim
  | .tup _, m, h => by cases m <;> exact h.elim
  | .dK _, m, h => by cases m <;> exact h.elim
  | .dT _, m, h => by cases m <;> exact h.elim
  | .set _ _, m, h => by cases m <;> exact h.elim
  | .own _, m, h => by cases m <;> exact h.elim
  | .xd _, m, h => by cases m <;> exact h.elim
  | .met _ _, m, h => by cases m <;> exact h.elim
  | .rng _ _, m, h => by cases m <;> exact h.elim
  | .frz _ _, m, h => by cases m <;> exact h.elim
  | .tbl _, m, h => by cases m <;> exact h.elim
  | .ext _, m, h => by cases m <;> exact h.elim
/-- the heap: F stands, M is told, Z is another's -/
structure Mem (K : PySem.W.Frag) (F : Hp) (M : Ms) (Z H : Hp) : Prop where
  sub : Same F H
  chg : ∀ a m, M a = some m → F a = none ∧ ∃ o, H a = some o ∧ MoOk K F o m
  out : ∀ a o, Z a = some o → H a = some o ∧ F a = none ∧ M a = none
def um (M : Ms) (a : Addr) (m : Mo) : Ms := fun b => if b = a then some m else M b
theorem um_same {M : Ms} {a : Addr} {m : Mo} : um M a m a = some m := by unfold um; rw [if_pos rfl]
theorem um_ne {M : Ms} {a b : Addr} {m : Mo} (h : b ≠ a) : um M a m b = M b := by unfold um; rw [if_neg h]
theorem um_um {M : Ms} {a : Addr} {m m' : Mo} : um (um M a m) a m' = um M a m' := by
  funext b
  unfold um
  split <;> rfl
theorem um_comm {M : Ms} {a b : Addr} {m m' : Mo} (h : a ≠ b) : um (um M a m) b m' = um (um M b m') a m := by
  funext c
  unfold um
  by_cases h1 : c = a
  · subst h1
    rw [if_neg h, if_pos rfl, if_pos rfl]
  · rw [if_neg h1, if_neg h1]
theorem um_id {M : Ms} {a : Addr} {m : Mo} (h : M a = some m) : um M a m = M := by
  funext b
  unfold um
  split
  · rename_i e
    rw [e, h]
  · rfl
theorem ne_of_um {M : Ms} {a b : Addr} {m : Mo} (h : um M a m b = none) : b ≠ a ∧ M b = none := by
  unfold um at h
  split at h
  · cases h
  · rename_i e
    exact ⟨e, h⟩
def SameM (M M' : Ms) : Prop := ∀ a m, M a = some m → M' a = some m
theorem SameM.refl (M : Ms) : SameM M M := fun _ _ h => h
theorem SameM.trans {M M1 M2 : Ms} (x : SameM M M1) (y : SameM M1 M2) : SameM M M2 := fun a m h => y a m (x a m h)
theorem SameM.um {M M' : Ms} {a : Addr} {m : Mo} (s : SameM M M') (h : M a = none) : SameM M (um M' a m) := fun b n e => by
  rw [um_ne (fun q => by rw [q, h] at e; cases e)]
  exact s b n e
theorem Mem.weak {K : PySem.W.Frag} {F H Z : Hp} {M M' : Ms} (h : Mem K F M' Z H) (s : SameM M M') : Mem K F M Z H := Mem.mk h.sub (fun a m e => h.chg a m (s a m e)) fun a o e => by
  obtain ⟨h1, h2, h3⟩ := h.out a o e
  refine ⟨h1, h2, ?_⟩
  cases q : M a with
  | none => rfl
  | some m =>
    rw [s a m q] at h3
    cases h3
section
variable {K : PySem.W.Frag} {F H Z : Hp} {M : Ms}
theorem Mem.zfree (h : Mem K F M Z H) {p : Addr} (n : H p = none) : Z p = none ∧ F p = none ∧ M p = none := by
  refine ⟨?_, h.sub.free n, ?_⟩
  · cases e : Z p with
    | none => rfl
    | some o =>
      rw [(h.out p o e).1] at n
      cases n
  · cases e : M p with
    | none => rfl
    | some q =>
      obtain ⟨_, o', h2, _⟩ := h.chg p q e
      rw [n] at h2
      cases h2
theorem Mem.znot (h : Mem K F M Z H) {p : Addr} {m : Mo} (t : M p = some m) : Z p = none := by
  cases e : Z p with
  | none => rfl
  | some o =>
    rw [(h.out p o e).2.2] at t
    cases t
/-- a new object that stands from now on -/
theorem Mem.newF (h : Mem K F M Z H) {p : Addr} {o : HO} (n : H p = none) : Same F (upd F p o) ∧ Mem K (upd F p o) M Z (upd H p o) := by
  obtain ⟨nZ, nF, nM⟩ := h.zfree n
  have s : Same F (upd F p o) := fun b u e => by
    rw [upd_ne (ne_of_none e nF)]
    exact e
  refine ⟨s, Mem.mk (fun b u e => ?_) (fun a m e => ?_) (fun a u e => ?_)⟩
  · by_cases hb : b = p
    · subst hb
      rw [upd_same] at e ⊢
      exact e
    · rw [upd_ne hb] at e ⊢
      exact h.sub b u e
  · obtain ⟨h1, o', h2, h3⟩ := h.chg a m e
    have na : a ≠ p := ne_of_none h2 n
    exact ⟨by rw [upd_ne na]; exact h1, o', by rw [upd_ne na]; exact h2, h3.mono s⟩
  · obtain ⟨h1, h2, h3⟩ := h.out a u e
    have na : a ≠ p := ne_of_none h1 n
    exact ⟨by rw [upd_ne na]; exact h1, by rw [upd_ne na]; exact h2, h3⟩
/-- a new object that nobody tells -/
theorem Mem.junk (h : Mem K F M Z H) {p : Addr} {o : HO} (n : H p = none) : Mem K F M Z (upd H p o) := by
  refine Mem.mk (fun b u e => ?_) (fun a m e => ?_) (fun a u e => ?_)
  · have q := h.sub b u e
    rw [upd_ne (ne_of_none q n)]
    exact q
  · obtain ⟨h1, o', h2, h3⟩ := h.chg a m e
    exact ⟨h1, o', by rw [upd_ne (ne_of_none h2 n)]; exact h2, h3⟩
  · obtain ⟨h1, h2, h3⟩ := h.out a u e
    exact ⟨by rw [upd_ne (ne_of_none h1 n)]; exact h1, h2, h3⟩
/-- a new object that may change -/
theorem Mem.newM (h : Mem K F M Z H) {p : Addr} {o : HO} {m : Mo} (n : H p = none) (ok : MoOk K F o m) : M p = none ∧ Mem K F (um M p m) Z (upd H p o) := by
  obtain ⟨nZ, nF, nM⟩ := h.zfree n
  refine ⟨nM, Mem.mk (fun b u e => ?_) (fun a m' e => ?_) (fun a u e => ?_)⟩
  · have q := h.sub b u e
    rw [upd_ne (ne_of_none q n)]
    exact q
  · by_cases hb : a = p
    · subst hb
      rw [um_same] at e
      cases e
      exact ⟨nF, o, upd_same, ok⟩
    · rw [um_ne hb] at e
      obtain ⟨h1, o', h2, h3⟩ := h.chg a m' e
      exact ⟨h1, o', by rw [upd_ne hb]; exact h2, h3⟩
  · obtain ⟨h1, h2, h3⟩ := h.out a u e
    have na : a ≠ p := ne_of_none h1 n
    exact ⟨by rw [upd_ne na]; exact h1, h2, by rw [um_ne na]; exact h3⟩
/-- a new object of another's -/
theorem Mem.newZ (h : Mem K F M Z H) {p : Addr} {o : HO} (n : H p = none) : Mem K F M (upd Z p o) (upd H p o) := by
  obtain ⟨nZ, nF, nM⟩ := h.zfree n
  refine Mem.mk (fun b u e => ?_) (fun a m e => ?_) (fun a u e => ?_)
  · have q := h.sub b u e
    rw [upd_ne (ne_of_none q n)]
    exact q
  · obtain ⟨h1, o', h2, h3⟩ := h.chg a m e
    exact ⟨h1, o', by rw [upd_ne (ne_of_none h2 n)]; exact h2, h3⟩
  · by_cases hb : a = p
    · subst hb
      rw [upd_same] at e
      cases e
      exact ⟨upd_same, nF, nM⟩
    · rw [upd_ne hb] at e
      obtain ⟨h1, h2, h3⟩ := h.out a u e
      exact ⟨by rw [upd_ne hb]; exact h1, h2, h3⟩
theorem Mem.writeZ (h : Mem K F M Z H) {p : Addr} {o u : HO} (t : Z p = some u) : Mem K F M (upd Z p o) (upd H p o) := by
  obtain ⟨nH, nF, nM⟩ := h.out p u t
  refine Mem.mk (fun b u e => ?_) (fun a m e => ?_) (fun a u e => ?_)
  · rw [upd_ne (ne_of_none e nF)]
    exact h.sub b u e
  · obtain ⟨h1, o', h2, h3⟩ := h.chg a m e
    have na : a ≠ p := fun q => by
      rw [q, nM] at e
      cases e
    exact ⟨h1, o', by rw [upd_ne na]; exact h2, h3⟩
  · by_cases hb : a = p
    · subst hb
      rw [upd_same] at e
      cases e
      exact ⟨upd_same, nF, nM⟩
    · rw [upd_ne hb] at e
      obtain ⟨h1, h2, h3⟩ := h.out a u e
      exact ⟨by rw [upd_ne hb]; exact h1, h2, h3⟩
/-- another's object becomes one that stands; the rest of Z as it was -/
theorem Mem.giveZ (h : Mem K F M (upd Z p o) H) (nZ : Z p = none) : Same F (upd F p o) ∧ Mem K (upd F p o) M Z H := by
  obtain ⟨nH, nF, nM⟩ := h.out p o upd_same
  have s : Same F (upd F p o) := fun b u e => by
    rw [upd_ne (ne_of_none e nF)]
    exact e
  refine ⟨s, Mem.mk (fun b u e => ?_) (fun a m e => ?_) (fun a u e => ?_)⟩
  · by_cases hb : b = p
    · subst hb
      rw [upd_same] at e
      cases e
      exact nH
    · rw [upd_ne hb] at e
      exact h.sub b u e
  · obtain ⟨h1, o', h2, h3⟩ := h.chg a m e
    have na : a ≠ p := fun q => by
      rw [q, nM] at e
      cases e
    exact ⟨by rw [upd_ne na]; exact h1, o', h2, h3.mono s⟩
  · have na : a ≠ p := ne_of_none e nZ
    obtain ⟨h1, h2, h3⟩ := h.out a u (by rw [upd_ne na]; exact e)
    exact ⟨h1, by rw [upd_ne na]; exact h2, h3⟩
/-- what may change does -/
theorem Mem.write (h : Mem K F M Z H) {p : Addr} {o : HO} {m m0 : Mo} (t : M p = some m0) (ok : MoOk K F o m) : Mem K F (um M p m) Z (upd H p o) := by
  obtain ⟨nF, _⟩ := h.chg p m0 t
  have nZ := h.znot t
  refine Mem.mk (fun b u e => ?_) (fun a m' e => ?_) (fun a u e => ?_)
  · rw [upd_ne (ne_of_none e nF)]
    exact h.sub b u e
  · by_cases hb : a = p
    · subst hb
      rw [um_same] at e
      cases e
      exact ⟨nF, o, upd_same, ok⟩
    · rw [um_ne hb] at e
      obtain ⟨h1, o', h2, h3⟩ := h.chg a m' e
      exact ⟨h1, o', by rw [upd_ne hb]; exact h2, h3⟩
  · have na : a ≠ p := ne_of_none e nZ
    obtain ⟨h1, h2, h3⟩ := h.out a u e
    exact ⟨by rw [upd_ne na]; exact h1, h2, by rw [um_ne na]; exact h3⟩
theorem Mem.list (h : Mem K F M Z H) {p : Addr} {es : List Ent} (t : M p = some (.lst es)) : ∃ vs, H p = some (.lst vs) ∧ REs K F vs es := by
  obtain ⟨_, o, h2, h3⟩ := h.chg p _ t
  cases o with
  | lst vs => exact ⟨vs, h2, h3⟩
  | _ => exact (h3 : False).elim
theorem Mem.inst (h : Mem K F M Z H) {p C : Addr} {fs : List (Str × Ent)} (t : M p = some (.ins C fs)) : ∃ dx vs, H p = some (.ins C dx vs) ∧ Paired (fun (p : Str × V) (q : Str × Ent) => p.1 = q.1 ∧ RE K F p.2 q.2) vs fs := by
  obtain ⟨_, o, h2, h3⟩ := h.chg p _ t
  cases o with
  | ins C' dx vs =>
    obtain ⟨e, q⟩ := h3
    subst e
    exact ⟨dx, vs, h2, q⟩
  | _ => exact (h3 : False).elim
end
def dl (M : Ms) (a : Addr) : Ms := fun b => if b = a then none else M b
theorem dl_um {M : Ms} {a : Addr} {m : Mo} (h : M a = none) : dl (um M a m) a = M := by
  funext b
  unfold dl um
  split
  · rename_i e
    rw [e, h]
  · rfl
/-- an object stops changing -/
theorem Mem.freeze {K : PySem.W.Frag} {F H Z : Hp} {M : Ms} (h : Mem K F M Z H) {p : Addr} {o : HO} {m : Mo} (t : M p = some m) (e : H p = some o) : Same F (upd F p o) ∧ Mem K (upd F p o) (dl M p) Z H := by
  obtain ⟨n, _⟩ := h.chg p m t
  have nZ := h.znot t
  have s : Same F (upd F p o) := fun b u q => by
    rw [upd_ne (ne_of_none q n)]
    exact q
  refine ⟨s, Mem.mk (fun b u q => ?_) (fun a m q => ?_) (fun a u q => ?_)⟩
  · by_cases hb : b = p
    · subst hb
      rw [upd_same] at q
      rw [e]
      exact q
    · rw [upd_ne hb] at q
      exact h.sub b u q
  · unfold dl at q
    split at q
    · cases q
    · rename_i hb
      obtain ⟨h1, o, h2, h3⟩ := h.chg a m q
      exact ⟨by rw [upd_ne hb]; exact h1, o, h2, h3.mono s⟩
  · have na : a ≠ p := ne_of_none q nZ
    obtain ⟨h1, h2, h3⟩ := h.out a u q
    refine ⟨h1, by rw [upd_ne na]; exact h2, ?_⟩
    unfold dl
    rw [if_neg na]
    exact h3
end Z
set_option Elab.async false
set_option linter.all false
set_option maxRecDepth 100000
set_option maxHeartbeats 4000000
namespace Z
open PySem PySem.Spec L2
/-! ## the judgements over data -/
/-- what is wanted of an exception: its class, its fields -/
abbrev Xa := Value → List (Str × Ent) → Ms → Prop
structure Jx where
  K : PySem.W.Frag
  E : XK
  X : Xa
def XdOk (K : PySem.W.Frag) (F H : Hp) : Option Addr → List (Str × Ent) → Prop
  | none, xs => xs = []
  | some d, xs => ∃ vs, H d = some (.xd vs) ∧ Paired (fun (p : Str × V) (q : Str × Ent) => p.1 = q.1 ∧ RE K F p.2 q.2) vs xs
def XR (J : Jx) (F Z : Hp) : Prop := ∀ F' H' M' c od xs, Same F F' → Mem J.K F' M' Z H' → J.X c xs M' → XdOk J.K F' H' od xs → J.E c od H'
theorem XR.mono {J : Jx} {F F' Z : Hp} (x : XR J F Z) (s : Same F F') : XR J F' Z := fun F2 H2 M2 c od xs s2 m q o => x F2 H2 M2 c od xs (s.trans s2) m q o
/-- an expression: its value, what may change -/
def Wx (J : Jx) (te : TE) (Γ : Ga) (M : Ms) (P : Ent → Ms → Prop) : Prop := ∀ F Z σ H, EnvOk J.K F σ Γ → Mem J.K F M Z H → XR J F Z → ∀ Q : VK,
  (∀ v F' H' e M', Same F F' → Mem J.K F' M' Z H' → RE J.K F' v e → P e M' → Q v H') → te σ H Q
def WA (J : Jx) (te : TA) (Γ : Ga) (M : Ms) (P : List Ent → Ms → Prop) : Prop := ∀ F Z σ H, EnvOk J.K F σ Γ → Mem J.K F M Z H → XR J F Z → ∀ Q : List V → Hp → Prop,
  (∀ vs F' H' es M', Same F F' → Mem J.K F' M' Z H' → REs J.K F' vs es → P es M' → Q vs H') → te σ H Q
def WT (J : Jx) (te : TT) (Γ : Ga) (M : Ms) (P : Bool → Ms → Prop) : Prop := ∀ F Z σ H, EnvOk J.K F σ Γ → Mem J.K F M Z H → XR J F Z → ∀ Q : Bool → Hp → Prop,
  (∀ b F' H' M', Same F F' → Mem J.K F' M' Z H' → P b M' → Q b H') → te σ H Q
/-- operations on values -/
def O2 (J : Jx) (r : R2) (x y : Ent) (M : Ms) (P : Ent → Ms → Prop) : Prop := ∀ F Z H v u, Mem J.K F M Z H → XR J F Z → RE J.K F v x → RE J.K F u y → ∀ Q : VK,
  (∀ v F' H' e M', Same F F' → Mem J.K F' M' Z H' → RE J.K F' v e → P e M' → Q v H') → r v u H Q
def O1 (J : Jx) (r : V → Hp → VK → Prop) (x : Ent) (M : Ms) (P : Ent → Ms → Prop) : Prop := ∀ F Z H v, Mem J.K F M Z H → XR J F Z → RE J.K F v x → ∀ Q : VK,
  (∀ v F' H' e M', Same F F' → Mem J.K F' M' Z H' → RE J.K F' v e → P e M' → Q v H') → r v H Q
def ON (J : Jx) (r : List V → Hp → VK → Prop) (xs : List Ent) (M : Ms) (P : Ent → Ms → Prop) : Prop := ∀ F Z H vs, Mem J.K F M Z H → XR J F Z → REs J.K F vs xs → ∀ Q : VK,
  (∀ v F' H' e M', Same F F' → Mem J.K F' M' Z H' → RE J.K F' v e → P e M' → Q v H') → r vs H Q
def OM (J : Jx) (r : V → List V → Hp → VK → Prop) (x : Ent) (xs : List Ent) (M : Ms) (P : Ent → Ms → Prop) : Prop := ∀ F Z H v vs, Mem J.K F M Z H → XR J F Z → RE J.K F v x → REs J.K F vs xs → ∀ Q : VK,
  (∀ v F' H' e M', Same F F' → Mem J.K F' M' Z H' → RE J.K F' v e → P e M' → Q v H') → r v vs H Q
section
variable {J : Jx} {Γ : Ga} {M : Ms} {P P' : Ent → Ms → Prop} {ta tb tc te : TE} {t u : TT}
theorem Wx.imp (h : Wx J te Γ M P) (k : ∀ e M', P e M' → P' e M') : Wx J te Γ M P' := fun F Z σ H en m x Q q => h F Z σ H en m x Q fun v F' H' e M' s m' r p => q v F' H' e M' s m' r (k e M' p)
theorem Wx.weak {M0 : Ms} (h : Wx J te Γ M0 P) (s : SameM M0 M) : Wx J te Γ M P := fun F Z σ H en m x Q q => h F Z σ H en (m.weak s) x Q q
/-! ### names, constants -/
theorem w_var {i : Nat} {e : Ent} (h : Γ[i]? = some (some e)) (p : P e M) : Wx J (tVar i) Γ M P := fun F Z σ H en m x Q q => by
  obtain ⟨o, e1, v, e2, r⟩ := paired_get en h
  subst e2
  exact ⟨v, e1, q v F H e M (Same.refl F) m r p⟩
theorem w_int {i : Int} (p : P (.d (.int i)) M) : Wx J (tC (.int i)) Γ M P := fun F Z σ H en m x Q q => q _ F H (.d (.int i)) M (Same.refl F) m (Rp.int i) p
theorem w_bl {b : Bool} (p : P (.d (.bool b)) M) : Wx J (tC (.bl b)) Γ M P := fun F Z σ H en m x Q q => q _ F H (.d (.bool b)) M (Same.refl F) m (Rp.bl b) p
theorem w_non (p : P (.d .none) M) : Wx J (tC .non) Γ M P := fun F Z σ H en m x Q q => q _ F H (.d .none) M (Same.refl F) m Rp.non p
theorem w_str {s : Str} (p : P (.d (.str s)) M) : Wx J (tC (.str s)) Γ M P := fun F Z σ H en m x Q q => q _ F H (.d (.str s)) M (Same.refl F) m (Rp.str s) p
theorem w_adr {a : Addr} (p : P (.r a) M) : Wx J (tC (.ref a)) Γ M P := fun F Z σ H en m x Q q => q _ F H (.r a) M (Same.refl F) m rfl p
theorem w_ty {n : String} (p : P (.t n) M) : Wx J (tC (.ty n)) Γ M P := fun F Z σ H en m x Q q => q _ F H (.t n) M (Same.refl F) m rfl p
/-! ### operators -/
theorem w_op {r : R2} (h : Wx J ta Γ M fun x M1 => Wx J tb Γ M1 fun y M2 => O2 J r x y M2 P) : Wx J (tOp r ta tb) Γ M P := fun F Z σ H en m x Q q =>
  h F Z σ H en m x _ fun v F1 H1 e1 M1 s1 m1 r1 h1 => h1 F1 Z σ H1 (en.mono s1) m1 (x.mono s1) _ fun u F2 H2 e2 M2 s2 m2 r2 h2 =>
    h2 F2 Z H2 v u m2 (x.mono (s1.trans s2)) (r1.mono s2) r2 Q fun w F3 H3 e3 M3 s3 m3 r3 p => q w F3 H3 e3 M3 ((s1.trans s2).trans s3) m3 r3 p
theorem w_un {r : V → Hp → VK → Prop} (h : Wx J ta Γ M fun x M1 => O1 J r x M1 P) : Wx J (tUn r ta) Γ M P := fun F Z σ H en m x Q q =>
  h F Z σ H en m x _ fun v F1 H1 e1 M1 s1 m1 r1 h1 => h1 F1 Z H1 v m1 (x.mono s1) r1 Q fun w F3 H3 e3 M3 s3 m3 r3 p => q w F3 H3 e3 M3 (s1.trans s3) m3 r3 p
theorem w_chain {r r' : R2} (h : Wx J ta Γ M fun x M1 => Wx J tb Γ M1 fun y M2 => O2 J r x y M2 fun z M3 => ∃ k, z = .d (.bool k) ∧ (k = true → Wx J tc Γ M3 fun w M4 => O2 J r' y w M4 P) ∧ (k = false → P (.d (.bool false)) M3)) :
    Wx J (tChain r r' ta tb tc) Γ M P := fun F Z σ H en m x Q q =>
  h F Z σ H en m x _ fun v F1 H1 e1 M1 s1 m1 r1 h1 => h1 F1 Z σ H1 (en.mono s1) m1 (x.mono s1) _ fun u F2 H2 e2 M2 s2 m2 r2 h2 =>
    h2 F2 Z H2 v u m2 (x.mono (s1.trans s2)) (r1.mono s2) r2 _ fun w F3 H3 e3 M3 s3 m3 r3 ⟨k, ek, kt, kf⟩ => by
      subst ek
      cases r3 with
      | bl b =>
        refine ⟨k, rfl, ?_⟩
        have s13 := (s1.trans s2).trans s3
        cases k with
        | true =>
          rw [if_pos rfl]
          exact kt rfl F3 Z σ H3 (en.mono s13) m3 (x.mono s13) _ fun u4 F4 H4 e4 M4 s4 m4 r4 h4 => h4 F4 Z H4 u u4 m4 (x.mono (s13.trans s4)) (r2.mono (s3.trans s4)) r4 Q fun w F5 H5 e5 M5 s5 m5 r5 p => q w F5 H5 e5 M5 ((s13.trans s4).trans s5) m5 r5 p
        | false =>
          rw [if_neg (by decide)]
          exact q _ F3 H3 (.d (.bool false)) M3 s13 m3 (Rp.bl false) (kf rfl)
theorem w_if (h : WT J t Γ M fun b M1 => (b = true → Wx J ta Γ M1 P) ∧ (b = false → Wx J tb Γ M1 P)) : Wx J (tIf t ta tb) Γ M P := fun F Z σ H en m x Q q =>
  h F Z σ H en m x _ fun b F1 H1 M1 s1 m1 ⟨h1, h2⟩ => by
    cases b with
    | true =>
      show ta σ H1 Q
      exact h1 rfl F1 Z σ H1 (en.mono s1) m1 (x.mono s1) Q fun w F3 H3 e3 M3 s3 m3 r3 p => q w F3 H3 e3 M3 (s1.trans s3) m3 r3 p
    | false =>
      show tb σ H1 Q
      exact h2 rfl F1 Z σ H1 (en.mono s1) m1 (x.mono s1) Q fun w F3 H3 e3 M3 s3 m3 r3 p => q w F3 H3 e3 M3 (s1.trans s3) m3 r3 p
/-! ### truth -/
/-- the truth of a value -/
def Tru (M : Ms) : Ent → Bool → Prop
  | .d .none, k => k = false
  | .d (.bool b), k => k = b
  | .d (.int i), k => k = (i != 0)
  | .d (.str s), k => s.length ≤ sizeLine ∧ k = ((s.length : Int) != 0)
  | .d (.list xs), k => k = !xs.isEmpty
  | .d (.tuple xs), k => k = !xs.isEmpty
  | .w xs, k => k = !xs.isEmpty
  | .r a, k => ∃ xs, M a = some (.lst xs) ∧ k = !xs.isEmpty
  | _, _ => False
theorem isEmpty_of_length {α β : Type} {xs : List α} {ys : List β} (h : xs.length = ys.length) : xs.isEmpty = ys.isEmpty := by
  cases xs <;> cases ys <;> simp at h ⊢
theorem tru_ok {K : PySem.W.Frag} {F Z H : Hp} {v : V} {e : Ent} {k : Bool} (m : Mem K F M Z H) (r : RE K F v e) (h : Tru M e k) : TruV K v H k := by
  cases e with
  | d x =>
    cases r with
    | non => exact h
    | bl b => exact h
    | int i => exact h
    | str s => exact h
    | lst e rs => exact .inl ⟨_, .inl (.inl (m.sub _ _ e)), by rw [isEmpty_of_length rs.length]; exact h⟩
    | tup e rs => exact .inr (.inl ⟨_, sqT_mono m.sub e, by rw [isEmpty_of_length rs.length]; exact h⟩)
    | obj _ _ => exact (h : False).elim
  | r a =>
    obtain ⟨xs, e1, e2⟩ := h
    obtain ⟨vs, h1, h2⟩ := m.list e1
    cases r
    exact .inl ⟨vs, .inl (.inl h1), by rw [isEmpty_of_length h2.length]; exact e2⟩
  | t n => exact (h : False).elim
  | w xs =>
    obtain ⟨a, vs, rfl, e1, rs⟩ := r
    exact .inl ⟨vs, m.sub.seq e1, by rw [isEmpty_of_length rs.length]; exact h⟩
end
section
variable {J : Jx} {Γ : Ga} {M : Ms} {P : Ent → Ms → Prop} {B : Bool → Ms → Prop} {ta tb tc te : TE} {t u : TT}
theorem wt_test (h : Wx J te Γ M fun x M1 => ∃ b, x = .d (.bool b) ∧ B b M1) : WT J (tTest te) Γ M B := fun F Z σ H en m x Q q =>
  h F Z σ H en m x _ fun v F1 H1 e1 M1 s1 m1 r1 ⟨b, eb, hb⟩ => by
    subst eb
    cases r1
    exact ⟨b, rfl, q b F1 H1 M1 s1 m1 hb⟩
theorem wt_val (h : Wx J te Γ M fun x M1 => ∃ b, x = .d (.bool b) ∧ B b M1) : WT J (tB te) Γ M B := fun F Z σ H en m x Q q =>
  h F Z σ H en m x _ fun v F1 H1 e1 M1 s1 m1 r1 ⟨b, eb, hb⟩ => by
    subst eb
    cases r1
    exact ⟨b, rfl, q b F1 H1 M1 s1 m1 hb⟩
theorem wt_tru (h : Wx J te Γ M fun x M1 => ∃ b, Tru M1 x b ∧ B b M1) : WT J (tTru J.K te) Γ M B := fun F Z σ H en m x Q q =>
  h F Z σ H en m x _ fun v F1 H1 e1 M1 s1 m1 r1 ⟨b, eb, hb⟩ => ⟨b, tru_ok m1 r1 eb, q b F1 H1 M1 s1 m1 hb⟩
theorem wt_and (h : WT J t Γ M fun b M1 => (b = true → WT J u Γ M1 B) ∧ (b = false → B false M1)) : WT J (tAnd t u) Γ M B := fun F Z σ H en m x Q q =>
  h F Z σ H en m x _ fun b F1 H1 M1 s1 m1 ⟨h1, h2⟩ => by
    cases b with
    | true =>
      show u σ H1 Q
      exact h1 rfl F1 Z σ H1 (en.mono s1) m1 (x.mono s1) Q fun w F3 H3 M3 s3 m3 p => q w F3 H3 M3 (s1.trans s3) m3 p
    | false =>
      show Q false H1
      exact q _ F1 H1 M1 s1 m1 (h2 rfl)
theorem wt_or (h : WT J t Γ M fun b M1 => (b = false → WT J u Γ M1 B) ∧ (b = true → B true M1)) : WT J (tOr t u) Γ M B := fun F Z σ H en m x Q q =>
  h F Z σ H en m x _ fun b F1 H1 M1 s1 m1 ⟨h1, h2⟩ => by
    cases b with
    | false =>
      show u σ H1 Q
      exact h1 rfl F1 Z σ H1 (en.mono s1) m1 (x.mono s1) Q fun w F3 H3 M3 s3 m3 p => q w F3 H3 M3 (s1.trans s3) m3 p
    | true =>
      show Q true H1
      exact q _ F1 H1 M1 s1 m1 (h2 rfl)
theorem wt_not (h : WT J t Γ M fun b M1 => B (!b) M1) : WT J (tNot t) Γ M B := fun F Z σ H en m x Q q =>
  h F Z σ H en m x _ fun b F1 H1 M1 s1 m1 h1 => q _ F1 H1 M1 s1 m1 h1
/-- and, or, not as values -/
theorem w_andT (h : Wx J ta Γ M fun x M1 => ∃ k, Tru M1 x k ∧ (k = true → Wx J tb Γ M1 P) ∧ (k = false → P x M1)) : Wx J (tAndT J.K ta tb) Γ M P := fun F Z σ H en m x Q q =>
  h F Z σ H en m x _ fun v F1 H1 e1 M1 s1 m1 r1 ⟨k, ek, h1, h2⟩ => ⟨k, tru_ok m1 r1 ek, by
    cases k with
    | true =>
      show tb σ H1 Q
      exact h1 rfl F1 Z σ H1 (en.mono s1) m1 (x.mono s1) Q fun w F3 H3 e3 M3 s3 m3 r3 p => q w F3 H3 e3 M3 (s1.trans s3) m3 r3 p
    | false =>
      show Q v H1
      exact q _ F1 H1 _ M1 s1 m1 r1 (h2 rfl)⟩
theorem w_orT (h : Wx J ta Γ M fun x M1 => ∃ k, Tru M1 x k ∧ (k = false → Wx J tb Γ M1 P) ∧ (k = true → P x M1)) : Wx J (tOrT J.K ta tb) Γ M P := fun F Z σ H en m x Q q =>
  h F Z σ H en m x _ fun v F1 H1 e1 M1 s1 m1 r1 ⟨k, ek, h1, h2⟩ => ⟨k, tru_ok m1 r1 ek, by
    cases k with
    | false =>
      show tb σ H1 Q
      exact h1 rfl F1 Z σ H1 (en.mono s1) m1 (x.mono s1) Q fun w F3 H3 e3 M3 s3 m3 r3 p => q w F3 H3 e3 M3 (s1.trans s3) m3 r3 p
    | true =>
      show Q v H1
      exact q _ F1 H1 _ M1 s1 m1 r1 (h2 rfl)⟩
theorem w_notT (h : Wx J ta Γ M fun x M1 => ∃ k, Tru M1 x k ∧ P (.d (.bool (!k))) M1) : Wx J (tNotT J.K ta) Γ M P := fun F Z σ H en m x Q q =>
  h F Z σ H en m x _ fun v F1 H1 e1 M1 s1 m1 r1 ⟨k, ek, h1⟩ => ⟨k, tru_ok m1 r1 ek, q _ F1 H1 (.d (.bool (!k))) M1 s1 m1 (Rp.bl _) h1⟩
/-! ### arguments -/
variable {A : List Ent → Ms → Prop} {tr : TA}
theorem wa_nil (p : A [] M) : WA J tNil Γ M A := fun F Z σ H en m x Q q => q [] F H [] M (Same.refl F) m .nil p
theorem wa_cons (h : Wx J ta Γ M fun x M1 => WA J tr Γ M1 fun xs M2 => A (x :: xs) M2) : WA J (tCons ta tr) Γ M A := fun F Z σ H en m x Q q =>
  h F Z σ H en m x _ fun v F1 H1 e1 M1 s1 m1 r1 h1 => h1 F1 Z σ H1 (en.mono s1) m1 (x.mono s1) _ fun vs F2 H2 es M2 s2 m2 r2 p => q (v :: vs) F2 H2 (e1 :: es) M2 (s1.trans s2) m2 (.cons (r1.mono s2) r2) p
theorem rpAll_of {K : PySem.W.Frag} {F : Hp} : ∀ {vs : List V} {ds : List PyData}, REs K F vs (ds.map Ent.d) → RpAll K F vs ds
  | _, [], .nil => .nil
  | _, _ :: _, .cons r t => .cons r (rpAll_of t)
theorem res_of {K : PySem.W.Frag} {F : Hp} : ∀ {vs : List V} {ds : List PyData}, RpAll K F vs ds → REs K F vs (ds.map Ent.d)
  | _, _, .nil => .nil
  | _, _, .cons r t => .cons r (res_of t)
/-- a tuple, a list that stands | a list that may change -/
theorem w_tup {t : TA} (h : WA J t Γ M fun es M1 => ∃ ds, es = ds.map Ent.d ∧ ds.length ≤ sizeLine ∧ P (.d (.tuple ds)) M1) : Wx J (tTup t) Γ M P := fun F Z σ H en m x Q q =>
  h F Z σ H en m x _ fun vs F1 H1 es M1 s1 m1 r1 ⟨ds, ed, hl, p⟩ => by
    subst ed
    have ra := rpAll_of r1
    refine ⟨by rw [ra.length]; exact hl, fun a n => ?_⟩
    obtain ⟨s2, m2⟩ := m1.newF (o := .tup vs) n
    exact q _ _ _ (.d (.tuple ds)) M1 (s1.trans s2) m2 (.tup (.inl (.inl upd_same)) (ra.mono s2)) p
theorem w_lst {t : TA} (h : WA J t Γ M fun es M1 => ∃ ds, es = ds.map Ent.d ∧ ds.length ≤ sizeLine ∧ P (.d (.list ds)) M1) : Wx J (tLst t) Γ M P := fun F Z σ H en m x Q q =>
  h F Z σ H en m x _ fun vs F1 H1 es M1 s1 m1 r1 ⟨ds, ed, hl, p⟩ => by
    subst ed
    have ra := rpAll_of r1
    refine ⟨by rw [ra.length]; exact hl, fun a n => ?_⟩
    obtain ⟨s2, m2⟩ := m1.newF (o := .lst vs) n
    exact q _ _ _ (.d (.list ds)) M1 (s1.trans s2) m2 (.lst upd_same (ra.mono s2)) p
theorem w_lstM {t : TA} (h : WA J t Γ M fun es M1 => es.length ≤ sizeLine ∧ ∀ a, M1 a = none → P (.r a) (um M1 a (.lst es))) : Wx J (tLst t) Γ M P := fun F Z σ H en m x Q q =>
  h F Z σ H en m x _ fun vs F1 H1 es M1 s1 m1 r1 ⟨hl, p⟩ => by
    refine ⟨by rw [r1.length]; exact hl, fun a n => ?_⟩
    obtain ⟨nM, m2⟩ := m1.newM (o := .lst vs) (m := .lst es) n r1
    exact q _ _ _ (.r a) _ s1 m2 rfl (p a nM)
end
/-! ## defs -/
/-- what a def does, over data: its arguments, what may change, what is wanted of its value, of an exception -/
abbrev ASp := List Ent → Ms → (Ent → Ms → Prop) → Xa → Prop
def spA (K : PySem.W.Frag) (c : ASp) : Sp := fun vs H Q E => ∃ (F Z : Hp) (M : Ms) (es : List Ent) (Qa : Ent → Ms → Prop) (X : Xa), REs K F vs es ∧ Mem K F M Z H ∧ c es M Qa X ∧
  (∀ v F' H' e M', Same F F' → Mem K F' M' Z H' → RE K F' v e → Qa e M' → Q v H') ∧ XR ⟨K, E, X⟩ F Z
abbrev X0 : Xa := fun _ _ _ => False
section
variable {J : Jx} {Γ : Ga} {M : Ms} {P : Ent → Ms → Prop} {t : TA}
theorem paired_append {α β : Type} {R : α → β → Prop} : ∀ {xs ys : List α} {us ws : List β}, Paired R xs us → Paired R ys ws → Paired R (xs ++ ys) (us ++ ws)
  | _, _, _, _, .nil, s => s
  | _, _, _, _, .cons r t, s => .cons r (paired_append t s)
/-- a call of a def that lets nothing out; dvs: its defaults -/
theorem w_call0 {c : ASp} {dvs : List V} {des : List Ent} (hd : ∀ F, REs J.K F dvs des) (h : WA J t Γ M fun es M1 => c (es ++ des) M1 P X0) : Wx J (tCall (spA J.K c) dvs E0 t) Γ M P := fun F Z σ H en m x Q q =>
  h F Z σ H en m x _ fun vs F1 H1 es M1 s1 m1 r1 h1 =>
    ⟨F1, Z, M1, es ++ des, P, X0, paired_append r1 (hd F1), m1, h1, fun v F' H' e M' s m' r p => q v F' H' e M' (s1.trans s) m' r p, fun _ _ _ _ _ _ _ _ z _ => z.elim⟩
theorem w_callE {c : ASp} {dvs : List V} {des : List Ent} (hd : ∀ F, REs J.K F dvs des) (h : WA J t Γ M fun es M1 => c (es ++ des) M1 P J.X) : Wx J (tCall (spA J.K c) dvs J.E t) Γ M P := fun F Z σ H en m x Q q =>
  h F Z σ H en m x _ fun vs F1 H1 es M1 s1 m1 r1 h1 =>
    ⟨F1, Z, M1, es ++ des, P, J.X, paired_append r1 (hd F1), m1, h1, fun v F' H' e M' s m' r p => q v F' H' e M' (s1.trans s) m' r p, x.mono s1⟩
end
/-! ## statements -/
structure Nd where
  nx : Ga → Ms → Prop
  rt : Ent → Ms → Prop
  bk : Ga → Ms → Prop := fun _ _ => False
  ct : Ga → Ms → Prop := fun _ _ => False
structure EndOk (K : PySem.W.Frag) (F Z : Hp) (D : Nd) (C : Ends) : Prop where
  nx : ∀ F' M' H' σ Γ, Same F F' → Mem K F' M' Z H' → EnvOk K F' σ Γ → D.nx Γ M' → C.nx σ H'
  rt : ∀ F' M' H' v e, Same F F' → Mem K F' M' Z H' → RE K F' v e → D.rt e M' → C.rt v H'
  bk : ∀ F' M' H' σ Γ, Same F F' → Mem K F' M' Z H' → EnvOk K F' σ Γ → D.bk Γ M' → C.bk σ H'
  ct : ∀ F' M' H' σ Γ, Same F F' → Mem K F' M' Z H' → EnvOk K F' σ Γ → D.ct Γ M' → C.ct σ H'
theorem EndOk.mono {K : PySem.W.Frag} {F F' Z : Hp} {D : Nd} {C : Ends} (h : EndOk K F Z D C) (s : Same F F') : EndOk K F' Z D C :=
  ⟨fun F2 M2 H2 σ Γ s2 => h.nx F2 M2 H2 σ Γ (s.trans s2), fun F2 M2 H2 v e s2 => h.rt F2 M2 H2 v e (s.trans s2), fun F2 M2 H2 σ Γ s2 => h.bk F2 M2 H2 σ Γ (s.trans s2), fun F2 M2 H2 σ Γ s2 => h.ct F2 M2 H2 σ Γ (s.trans s2)⟩
def Sx (J : Jx) (ts : TS) (D : Nd) (Γ : Ga) (M : Ms) : Prop := ∀ F Z σ H C, EnvOk J.K F σ Γ → Mem J.K F M Z H → XR J F Z → EndOk J.K F Z D C → ts C σ H
/-- targets -/
def GT (J : Jx) (g : TG) (e : Ent) (Γ : Ga) (M : Ms) (P : Ga → Ms → Prop) : Prop := ∀ F Z σ H v, EnvOk J.K F σ Γ → Mem J.K F M Z H → XR J F Z → RE J.K F v e → ∀ Q : L2.St → Hp → Prop,
  (∀ F' H' σ' Γ' M', Same F F' → Mem J.K F' M' Z H' → EnvOk J.K F' σ' Γ' → P Γ' M' → Q σ' H') → g v σ H Q
def GTs (J : Jx) (g : TGs) (es : List Ent) (Γ : Ga) (M : Ms) (P : Ga → Ms → Prop) : Prop := ∀ F Z σ H vs, EnvOk J.K F σ Γ → Mem J.K F M Z H → XR J F Z → REs J.K F vs es → ∀ Q : L2.St → Hp → Prop,
  (∀ F' H' σ' Γ' M', Same F F' → Mem J.K F' M' Z H' → EnvOk J.K F' σ' Γ' → P Γ' M' → Q σ' H') → g vs σ H Q
section
variable {J : Jx} {Γ : Ga} {M : Ms} {D : Nd} {te ta tb : TE} {t u : TS} {tt : TT} {g : TG} {gs : TGs} {P : Ga → Ms → Prop} {e : Ent}
theorem Sx.weak {M0 : Ms} (h : Sx J t D Γ M0) (s : SameM M0 M) : Sx J t D Γ M := fun F Z σ H C en m x d => h F Z σ H C en (m.weak s) x d
theorem s_seq (h : Sx J t { D with nx := fun Γ' M' => Sx J u D Γ' M' } Γ M) : Sx J (tSeq t u) D Γ M := fun F Z σ H C en m x d =>
  h F Z σ H _ en m x ⟨fun F' M' H' σ' Γ' s m' e' k => k F' Z σ' H' C e' m' (x.mono s) (d.mono s), d.rt, d.bk, d.ct⟩
theorem s_next (h : D.nx Γ M) : Sx J tNext D Γ M := fun F Z σ H C en m x d => d.nx F M H σ Γ (Same.refl F) m en h
theorem s_break (h : D.bk Γ M) : Sx J tBreak D Γ M := fun F Z σ H C en m x d => d.bk F M H σ Γ (Same.refl F) m en h
theorem s_cont (h : D.ct Γ M) : Sx J tCont D Γ M := fun F Z σ H C en m x d => d.ct F M H σ Γ (Same.refl F) m en h
theorem s_drop (h : Wx J te Γ M fun _ M1 => D.nx Γ M1) : Sx J (tDrop te) D Γ M := fun F Z σ H C en m x d =>
  h F Z σ H en m x _ fun v F' H' e M' s m' r p => d.nx F' M' H' σ Γ s m' (en.mono s) p
theorem s_ret (h : Wx J te Γ M D.rt) : Sx J (tRet te) D Γ M := fun F Z σ H C en m x d =>
  h F Z σ H en m x _ fun v F' H' e M' s m' r p => d.rt F' M' H' v e s m' r p
theorem s_retN (h : D.rt (.d .none) M) : Sx J tRetN D Γ M := fun F Z σ H C en m x d => d.rt F M H _ (.d .none) (Same.refl F) m Rp.non h
theorem s_if (h : WT J tt Γ M fun b M1 => (b = true → Sx J t D Γ M1) ∧ (b = false → Sx J u D Γ M1)) : Sx J (tIfS tt t u) D Γ M := fun F Z σ H C en m x d =>
  h F Z σ H en m x _ fun b F1 H1 M1 s1 m1 ⟨h1, h2⟩ => by
    cases b with
    | true =>
      show t C σ H1
      exact h1 rfl F1 Z σ H1 C (en.mono s1) m1 (x.mono s1) (d.mono s1)
    | false =>
      show u C σ H1
      exact h2 rfl F1 Z σ H1 C (en.mono s1) m1 (x.mono s1) (d.mono s1)
theorem s_asg (h : Wx J te Γ M fun e M1 => GT J g e Γ M1 D.nx) : Sx J (tAsg te g) D Γ M := fun F Z σ H C en m x d =>
  h F Z σ H en m x _ fun v F1 H1 e M1 s1 m1 r1 h1 => h1 F1 Z σ H1 v (en.mono s1) m1 (x.mono s1) r1 _ fun F' H' σ' Γ' M' s m' e' p => d.nx F' M' H' σ' Γ' (s1.trans s) m' e' p
theorem g_name {i : Nat} (h : P (Γ.set i (some e)) M) : GT J (gName i) e Γ M P := fun F Z σ H v en m x r Q q => q F H _ _ M (Same.refl F) m (en.set i r) h
theorem s_set {i : Nat} (h : Wx J te Γ M fun e M1 => D.nx (Γ.set i (some e)) M1) : Sx J (tAsg te (gName i)) D Γ M := s_asg (h.imp fun _ _ p => g_name p)
theorem gs_nil (h : P Γ M) : GTs J gNil [] Γ M P := fun F Z σ H vs en m x r Q q => by
  cases r
  exact ⟨rfl, q F H σ Γ M (Same.refl F) m en h⟩
theorem gs_cons {es : List Ent} (h : GT J g e Γ M fun Γ1 M1 => GTs J gs es Γ1 M1 P) : GTs J (gCons g gs) (e :: es) Γ M P := fun F Z σ H vs en m x r Q q => by
  cases r with
  | cons r1 r2 =>
    exact ⟨_, _, rfl, h F Z σ H _ en m x r1 _ fun F1 H1 σ1 Γ1 M1 s1 m1 e1 k => k F1 Z σ1 H1 _ e1 m1 (x.mono s1) (Paired.mapP r2 fun _ _ q => q.mono s1) Q fun F' H' σ' Γ' M' s m' e' p => q F' H' σ' Γ' M' (s1.trans s) m' e' p⟩
theorem g_tup {n : Nat} {ds : List PyData} (hn : ds.length = n) (h : GTs J gs (ds.map Ent.d) Γ M P) : GT J (gTup J.K n gs) (.d (.tuple ds)) Γ M P := fun F Z σ H v en m x r Q q => by
  cases r with
  | tup e rs => exact ⟨_, _, rfl, sqT_mono m.sub e, by rw [rs.length]; exact hn, h F Z σ H _ en m x (res_of rs) Q q⟩
theorem s_aug {i : Nat} {ti : TIp} {e0 : Ent} (h0 : Γ[i]? = some (some e0)) (h : Wx J te Γ M fun y M1 => O2 J (fun x y H Q => ti x y H Q) e0 y M1 fun z M2 => D.nx (Γ.set i (some z)) M2) : Sx J (tAug i te ti) D Γ M := fun F Z σ H C en m x d => by
  obtain ⟨o, e1, v, e2, r⟩ := paired_get en h0
  subst e2
  exact ⟨v, e1, h F Z σ H en m x _ fun u F1 H1 e M1 s1 m1 r1 h1 => h1 F1 Z H1 v u m1 (x.mono s1) (r.mono s1) r1 _ fun z F2 H2 e3 M2 s2 m2 r2 p => d.nx F2 M2 H2 _ _ (s1.trans s2) m2 ((en.mono (s1.trans s2)).set i r2) p⟩
/-- a list stops changing -/
def fzE (a : Addr) (ds : List PyData) : Option Ent → Option Ent
  | some (.r b) => if b = a then some (.d (.list ds)) else some (.r b)
  | o => o
theorem fz_env {K : PySem.W.Frag} {F : Hp} {a : Addr} {ds : List PyData} (rp : Rp K F (.ref a) (.list ds)) : ∀ {σ : L2.St} {Γ : Ga}, EnvOk K F σ Γ → EnvOk K F σ (Γ.map (fzE a ds))
  | _, _, .nil => .nil
  | _, none :: _, .cons q t => .cons trivial (fz_env rp t)
  | _, some (.d _) :: _, .cons q t => .cons q (fz_env rp t)
  | _, some (.w _) :: _, .cons q t => .cons q (fz_env rp t)
  | _, some (.t _) :: _, .cons q t => .cons q (fz_env rp t)
  | _, some (.r b) :: _, .cons q t => by
    refine Paired.cons ?_ (fz_env rp t)
    show RO K F _ (if b = a then some (.d (.list ds)) else some (.r b))
    split
    · rename_i e
      obtain ⟨v, e1, e2⟩ := q
      exact ⟨v, e1, by rw [show v = .ref b from e2, e]; exact rp⟩
    · exact q
theorem s_freeze {a : Addr} {ds : List PyData} (h0 : M a = some (.lst (ds.map Ent.d))) (h : Sx J t D (Γ.map (fzE a ds)) (dl M a)) : Sx J t D Γ M := fun F Z σ H C en m x d => by
  obtain ⟨vs, e1, r1⟩ := m.list h0
  obtain ⟨s2, m2⟩ := m.freeze h0 e1
  exact h _ Z σ H C (fz_env (.lst upd_same ((rpAll_of r1).mono s2)) (en.mono s2)) m2 (x.mono s2) (d.mono s2)
end
/-! ## the rule of a def -/
def startG (N : List Str) (es : List Ent) : Ga := es.map some ++ List.replicate (N.length - es.length) none
theorem startG_ok {K : PySem.W.Frag} {F : Hp} {N : List Str} {vs : List V} {es : List Ent} (r : REs K F vs es) : EnvOk K F (L2.start N vs) (startG N es) := by
  have e := r.length
  unfold L2.start startG
  rw [e]
  refine paired_append ?_ ?_
  · clear e
    induction r with
    | nil => exact .nil
    | cons q t ih => exact .cons ⟨_, rfl, q⟩ ih
  · generalize N.length - es.length = n
    induction n with
    | zero => exact .nil
    | succ n ih => exact .cons trivial ih
section
variable {P : Program} {w : World} {K : PySem.W.Frag} {mg : Str → Option Value} {base : Heap} {x qual : Str} {params : Arguments} {body : List Stmt} {scope : Scope} {dvs : List V} {kws : List (Str × V)} {f : Addr} {fd : FuncData}
/-- a def that lets nothing out -/
theorem fn_ok {N ps : List Str} {k : Nat} {c : ASp} (F : FunD K x qual params body scope dvs kws f fd) (S : FnScope N ps scope) (len : ∀ es M Q X, c es M Q X → es.length = ps.length)
    (h : ∀ (cdv : Value) (A : Around) (outer : List Env) (s : Shared) (H : Hp) (E : XK), Room k (A.deeper (PyProof.Rows.envOfC qual scope s.heap.objs.size f cdv)) →
      ∃ t, PSs (cxOf CX0 P w K mg base N qual scope f cdv A outer s H E).nox body t ∧ ∀ es M Q X, c es M Q X → Sx ⟨K, E, X⟩ t { nx := fun _ M' => Q (.d .none) M', rt := Q } (startG N es) M) : FnOk P w K mg base CX0 (k + 1) f fd ps (spA K c) := by
  refine FunD.ok F S (fun vs H Q E ⟨F, Z, M, es, Qa, X, r, _, hc, _⟩ => r.length.trans (len es M Qa X hc)) fun cdv A outer s H vs Q E hr hsp => ?_
  obtain ⟨F, Z, M, es, Qa, X, r, m, hc, hq, hx⟩ := hsp
  obtain ⟨t, ht, hs⟩ := h cdv A outer s H E hr
  refine ⟨t, ht.nox, hs es M Qa X hc F Z _ H _ (startG_ok r) m hx ⟨?_, ?_, fun _ _ _ _ _ _ _ _ z => z.elim, fun _ _ _ _ _ _ _ _ z => z.elim⟩⟩
  · intro F' M' H' σ Γ s' m' _ q
    exact hq _ F' H' (.d .none) M' s' m' Rp.non q
  · intro F' M' H' v e s' m' r' q
    exact hq v F' H' e M' s' m' r' q
end
end Z
set_option Elab.async false
set_option linter.all false
set_option maxRecDepth 100000
set_option maxHeartbeats 4000000
namespace Z
open PySem PySem.Spec L2
/-! ## operations over data -/
def rOr (r r' : R2) : R2 := fun x y H Q => r x y H Q ∨ r' x y H Q
theorem op_or2 {X : Cx} {f : Value → Value → Sem Value} {r r' : R2} (h : OpR X f r) (h' : OpR X f r') : OpR X f (rOr r r') := fun pins s σ H x y v u Q I rx ry q => q.elim (h pins s σ H x y v u Q I rx ry) (h' pins s σ H x y v u Q I rx ry)
section
variable {J : Jx} {Γ : Ga} {M : Ms} {P : Ent → Ms → Prop} {r r' : R2} {x y : Ent}
theorem o_l (h : O2 J r x y M P) : O2 J (rOr r r') x y M P := fun F Z H v u m xr r1 r2 Q q => .inl (h F Z H v u m xr r1 r2 Q q)
theorem o_r (h : O2 J r' x y M P) : O2 J (rOr r r') x y M P := fun F Z H v u m xr r1 r2 Q q => .inr (h F Z H v u m xr r1 r2 Q q)
theorem o_I0 {g : Int → Int → V} {d : PyData} {i j : Int} (hg : ∀ F, Rp J.K F (g i j) d) (p : P (.d d) M) : O2 J (rI0 g) (.d (.int i)) (.d (.int j)) M P := fun F Z H v u m xr r1 r2 Q q => by
  cases r1
  cases r2
  exact ⟨i, j, rfl, rfl, q _ F H (.d d) M (Same.refl F) m (hg F) p⟩
theorem o_I {C : Int → Int → Prop} {g : Int → Int → V} {d : PyData} {i j : Int} (hg : ∀ F, Rp J.K F (g i j) d) (hc : C i j) (p : P (.d d) M) : O2 J (rI C g) (.d (.int i)) (.d (.int j)) M P := fun F Z H v u m xr r1 r2 Q q => by
  cases r1
  cases r2
  exact ⟨i, j, rfl, rfl, hc, q _ F H (.d d) M (Same.refl F) m (hg F) p⟩
/-! + - * // % ** -/
abbrev rAddI : R2 := rI0 fun i j => .int (i + j)
abbrev rAddS : R2 := fun x y H Q => ∃ i j, x = .str i ∧ y = .str j ∧ i.length + j.length ≤ sizeLine ∧ Q (.str (i ++ j)) H
abbrev rAddU (K : PySem.W.Frag) : R2 := rOr rAddI (rOr rAddS (rOr rCat (rCatT K)))
theorem op_addU {X : Cx} : OpR X (binaryOp .Add) (rAddU X.K) := op_or2 op_add (op_or2 op_add_str (op_or2 op_cat op_catT))
theorem o_add {i j : Int} (p : P (.d (.int (i + j))) M) : O2 J (rAddU J.K) (.d (.int i)) (.d (.int j)) M P := o_l (o_I0 (fun _ => Rp.int _) p)
theorem o_addS {i j : Str} (hl : i.length + j.length ≤ sizeLine) (p : P (.d (.str (i ++ j))) M) : O2 J (rAddU J.K) (.d (.str i)) (.d (.str j)) M P := o_r (o_l fun F Z H v u m xr r1 r2 Q q => by
  cases r1
  cases r2
  exact ⟨i, j, rfl, rfl, hl, q _ F H (.d (.str (i ++ j))) M (Same.refl F) m (Rp.str _) p⟩)
theorem o_cat {xs ys : List PyData} (hl : xs.length + ys.length ≤ sizeLine) (p : P (.d (.list (xs ++ ys))) M) : O2 J (rAddU J.K) (.d (.list xs)) (.d (.list ys)) M P := o_r (o_r (o_l fun F Z H v u m xr r1 r2 Q q => by
  cases r1 with
  | lst e1 s1 =>
    cases r2 with
    | lst e2 s2 =>
      refine ⟨_, _, _, _, rfl, rfl, m.sub _ _ e1, m.sub _ _ e2, by rw [s1.length, s2.length]; exact hl, fun a n => ?_⟩
      obtain ⟨s3, m3⟩ := m.newF (o := .lst _) n
      exact q _ _ _ (.d (.list (xs ++ ys))) M s3 m3 (Rp.lst upd_same ((s1.append s2).mono s3)) p))
theorem o_catT {xs ys : List PyData} (hn : xs ≠ []) (hl : xs.length + ys.length ≤ sizeLine) (p : P (.d (.tuple (xs ++ ys))) M) : O2 J (rAddU J.K) (.d (.tuple xs)) (.d (.tuple ys)) M P := o_r (o_r (o_r fun F Z H v u m xr r1 r2 Q q => by
  cases r1 with
  | tup e1 s1 =>
    cases r2 with
    | tup e2 s2 =>
      refine ⟨_, _, _, _, rfl, rfl, sqT_mono m.sub e1, sqT_mono m.sub e2, fun z => hn ?_, by rw [s1.length, s2.length]; exact hl, fun z => ?_, fun _ a n => ?_⟩
      · have l := s1.length
        rw [z] at l
        exact List.eq_nil_of_length_eq_zero l.symm
      · have l := s2.length
        rw [z] at l
        have ey : ys = [] := List.eq_nil_of_length_eq_zero l.symm
        subst ey
        exact q _ F H (.d (.tuple (xs ++ []))) M (Same.refl F) m (by rw [List.append_nil]; exact Rp.tup e1 s1) p
      · obtain ⟨s3, m3⟩ := m.newF (o := .tup _) n
        exact q _ _ _ (.d (.tuple (xs ++ ys))) M s3 m3 (Rp.tup (.inl (.inl upd_same)) ((s1.append s2).mono s3)) p))
abbrev rSubI : R2 := rI0 fun i j => .int (i - j)
theorem o_sub {i j : Int} (p : P (.d (.int (i - j))) M) : O2 J rSubI (.d (.int i)) (.d (.int j)) M P := o_I0 (fun _ => Rp.int _) p
theorem o_mul {i j : Int} (hc : CMul i j) (p : P (.d (.int (i * j))) M) : O2 J (rI CMul fun i j => .int (i * j)) (.d (.int i)) (.d (.int j)) M P := o_I (fun _ => Rp.int _) hc p
theorem o_fdiv {i j : Int} (hc : CDivN i j) (p : P (.d (.int (i.fdiv j))) M) : O2 J (rI CDivN fun i j => .int (i.fdiv j)) (.d (.int i)) (.d (.int j)) M P := o_I (fun _ => Rp.int _) hc p
theorem o_mod {i j : Int} (hc : j ≠ 0) (p : P (.d (.int (i.fmod j))) M) : O2 J (rI (fun _ j => j ≠ 0) fun i j => .int (i.fmod j)) (.d (.int i)) (.d (.int j)) M P := o_I (fun _ => Rp.int _) hc p
theorem o_pow {i j : Int} (hc : CPow i j) (p : P (.d (.int (i ^ j.toNat))) M) : O2 J (rI CPow fun i j => .int (i ^ j.toNat)) (.d (.int i)) (.d (.int j)) M P := o_I (fun _ => Rp.int _) hc p
theorem o_neg {i : Int} (p : P (.d (.int (-i))) M) : O1 J (rU fun i => .int (-i)) (.d (.int i)) M P := fun F Z H v m xr r1 Q q => by
  cases r1
  exact ⟨i, rfl, q _ F H (.d (.int (-i))) M (Same.refl F) m (Rp.int _) p⟩
/-! < <= > >= -/
abbrev rLtU : R2 := rOr (rI0 fun i j => .bl (decide (i < j))) (fun x y H Q => ∃ i j, x = .str i ∧ y = .str j ∧ Q (.bl (decide (i.cps.toList < j.cps.toList))) H)
abbrev rLeU : R2 := rOr (rI0 fun i j => .bl (decide (i ≤ j))) (fun x y H Q => ∃ i j, x = .str i ∧ y = .str j ∧ Q (.bl (!decide (j.cps.toList < i.cps.toList))) H)
abbrev rGtU : R2 := rOr (rI0 fun i j => .bl (decide (j < i))) (fun x y H Q => ∃ i j, x = .str i ∧ y = .str j ∧ Q (.bl (decide (j.cps.toList < i.cps.toList))) H)
abbrev rGeU : R2 := rOr (rI0 fun i j => .bl (decide (j ≤ i))) (fun x y H Q => ∃ i j, x = .str i ∧ y = .str j ∧ Q (.bl (!decide (i.cps.toList < j.cps.toList))) H)
theorem op_ltU {X : Cx} : OpR X (compareOp .Lt) rLtU := op_or2 op_lt op_lt_str
theorem op_leU {X : Cx} : OpR X (compareOp .LtE) rLeU := op_or2 op_le op_le_str
theorem op_gtU {X : Cx} : OpR X (compareOp .Gt) rGtU := op_or2 op_gt op_gt_str
theorem op_geU {X : Cx} : OpR X (compareOp .GtE) rGeU := op_or2 op_ge op_ge_str
theorem o_lt {i j : Int} (p : P (.d (.bool (decide (i < j)))) M) : O2 J rLtU (.d (.int i)) (.d (.int j)) M P := o_l (o_I0 (fun _ => Rp.bl _) p)
theorem o_le {i j : Int} (p : P (.d (.bool (decide (i ≤ j)))) M) : O2 J rLeU (.d (.int i)) (.d (.int j)) M P := o_l (o_I0 (fun _ => Rp.bl _) p)
theorem o_gt {i j : Int} (p : P (.d (.bool (decide (j < i)))) M) : O2 J rGtU (.d (.int i)) (.d (.int j)) M P := o_l (o_I0 (fun _ => Rp.bl _) p)
theorem o_ge {i j : Int} (p : P (.d (.bool (decide (j ≤ i)))) M) : O2 J rGeU (.d (.int i)) (.d (.int j)) M P := o_l (o_I0 (fun _ => Rp.bl _) p)
theorem o_SS {g : Str → Str → V} {d : PyData} {i j : Str} (hg : ∀ F, Rp J.K F (g i j) d) (p : P (.d d) M) : O2 J (fun x y H Q => ∃ i j, x = .str i ∧ y = .str j ∧ Q (g i j) H) (.d (.str i)) (.d (.str j)) M P := fun F Z H v u m xr r1 r2 Q q => by
  cases r1
  cases r2
  exact ⟨i, j, rfl, rfl, q _ F H (.d d) M (Same.refl F) m (hg F) p⟩
theorem o_ltS {i j : Str} (p : P (.d (.bool (decide (i.cps.toList < j.cps.toList)))) M) : O2 J rLtU (.d (.str i)) (.d (.str j)) M P := o_r (o_SS (g := fun i j => .bl (decide (i.cps.toList < j.cps.toList))) (fun _ => Rp.bl _) p)
theorem o_leS {i j : Str} (p : P (.d (.bool (!decide (j.cps.toList < i.cps.toList)))) M) : O2 J rLeU (.d (.str i)) (.d (.str j)) M P := o_r (o_SS (g := fun i j => .bl (!decide (j.cps.toList < i.cps.toList))) (fun _ => Rp.bl _) p)
theorem o_gtS {i j : Str} (p : P (.d (.bool (decide (j.cps.toList < i.cps.toList)))) M) : O2 J rGtU (.d (.str i)) (.d (.str j)) M P := o_r (o_SS (g := fun i j => .bl (decide (j.cps.toList < i.cps.toList))) (fun _ => Rp.bl _) p)
/-! == != -/
theorem o_eqD {a b : PyData} (ha : noObj a = true) (hb : noObj b = true) (sa : SeqAt.shaped a = true) (sb : SeqAt.shaped b = true) (p : P (.d (.bool (PyData.eqv a b))) M) : O2 J (rEqD J.K) (.d a) (.d b) M P := fun F Z H v u m xr r1 r2 Q q =>
  ⟨a, b, dp_mono m.sub (Rp.dp r1 ha), dp_mono m.sub (Rp.dp r2 hb), sa, sb, q _ F H (.d (.bool _)) M (Same.refl F) m (Rp.bl _) p⟩
theorem o_neD {a b : PyData} (ha : noObj a = true) (hb : noObj b = true) (sa : SeqAt.shaped a = true) (sb : SeqAt.shaped b = true) (p : P (.d (.bool (!PyData.eqv a b))) M) : O2 J (rNeD J.K) (.d a) (.d b) M P := fun F Z H v u m xr r1 r2 Q q =>
  ⟨a, b, dp_mono m.sub (Rp.dp r1 ha), dp_mono m.sub (Rp.dp r2 hb), sa, sb, q _ F H (.d (.bool _)) M (Same.refl F) m (Rp.bl _) p⟩
abbrev rEqU (K : PySem.W.Frag) : R2 := rOr rEq (rEqD K)
abbrev rNeU (K : PySem.W.Frag) : R2 := rOr rNe (rNeD K)
theorem op_eqU {X : Cx} (hu : X.A.units + 64 < cLine) : OpR X (compareOp .Eq) (rEqU X.K) := op_or2 op_eq (op_eqD hu)
theorem op_neU {X : Cx} (hu : X.A.units + 64 < cLine) : OpR X (compareOp .NotEq) (rNeU X.K) := op_or2 op_ne (op_neD hu)
/-- scalars by their values -/
def sv : PyData → Option V
  | .none => some .non
  | .bool b => some (.bl b)
  | .int i => some (.int i)
  | .str s => some (.str s)
  | _ => none
theorem rp_sv {K : PySem.W.Frag} {F : Hp} {v z : V} {d : PyData} (r : Rp K F v d) (h : sv d = some z) : v = z := by
  cases r <;> simp [sv] at h <;> exact h
theorem o_eqS {a b : PyData} {z w : V} (ha : sv a = some z) (hb : sv b = some w) (hs : scal z w = true) (p : P (.d (.bool (decide (z = w)))) M) : O2 J (rEqU J.K) (.d a) (.d b) M P := o_l fun F Z H v u m xr r1 r2 Q q => by
  rw [rp_sv r1 ha, rp_sv r2 hb]
  exact ⟨hs, q _ F H (.d (.bool _)) M (Same.refl F) m (Rp.bl _) p⟩
theorem o_neS {a b : PyData} {z w : V} (ha : sv a = some z) (hb : sv b = some w) (hs : scal z w = true) (p : P (.d (.bool (!decide (z = w)))) M) : O2 J (rNeU J.K) (.d a) (.d b) M P := o_l fun F Z H v u m xr r1 r2 Q q => by
  rw [rp_sv r1 ha, rp_sv r2 hb]
  exact ⟨hs, q _ F H (.d (.bool _)) M (Same.refl F) m (Rp.bl _) p⟩
theorem o_eq {i j : Int} (p : P (.d (.bool (decide (i = j)))) M) : O2 J (rEqU J.K) (.d (.int i)) (.d (.int j)) M P := o_eqS rfl rfl rfl (by simpa using p)
theorem o_ne {i j : Int} (p : P (.d (.bool (!decide (i = j)))) M) : O2 J (rNeU J.K) (.d (.int i)) (.d (.int j)) M P := o_neS rfl rfl rfl (by simpa using p)
theorem o_eqT {i j : Str} (p : P (.d (.bool (decide (i = j)))) M) : O2 J (rEqU J.K) (.d (.str i)) (.d (.str j)) M P := o_eqS rfl rfl rfl (by simpa using p)
theorem o_neT {i j : Str} (p : P (.d (.bool (!decide (i = j)))) M) : O2 J (rNeU J.K) (.d (.str i)) (.d (.str j)) M P := o_neS rfl rfl rfl (by simpa using p)
theorem o_eqB {i j : Bool} (p : P (.d (.bool (decide (i = j)))) M) : O2 J (rEqU J.K) (.d (.bool i)) (.d (.bool j)) M P := o_eqS rfl rfl rfl (by simpa using p)
theorem o_eqL {a b : PyData} (ha : noObj a = true) (hb : noObj b = true) (sa : SeqAt.shaped a = true) (sb : SeqAt.shaped b = true) (p : P (.d (.bool (PyData.eqv a b))) M) : O2 J (rEqU J.K) (.d a) (.d b) M P := o_r (o_eqD ha hb sa sb p)
theorem o_neL {a b : PyData} (ha : noObj a = true) (hb : noObj b = true) (sa : SeqAt.shaped a = true) (sb : SeqAt.shaped b = true) (p : P (.d (.bool (!PyData.eqv a b))) M) : O2 J (rNeU J.K) (.d a) (.d b) M P := o_r (o_neD ha hb sa sb p)
/-! is None -/
def isN : Ent → Bool
  | .d .none => true
  | _ => false
theorem re_isN {K : PySem.W.Frag} {F : Hp} {v : V} {e : Ent} (r : RE K F v e) : decide (v = .non) = isN e := by
  cases e with
  | d x => cases r <;> rfl
  | r a => cases r; rfl
  | t n => cases r; rfl
  | w xs =>
    obtain ⟨a, vs, rfl, _⟩ := r
    rfl
theorem o_isN (p : P (.d (.bool (isN x))) M) : O2 J rIsN x (.d .none) M P := fun F Z H v u m xr r1 r2 Q q => by
  cases r2
  exact ⟨rfl, q _ F H (.d (.bool (isN x))) M (Same.refl F) m (by rw [re_isN r1]; exact Rp.bl _) p⟩
theorem o_notN (p : P (.d (.bool (!isN x))) M) : O2 J rNotN x (.d .none) M P := fun F Z H v u m xr r1 r2 Q q => by
  cases r2
  exact ⟨rfl, q _ F H (.d (.bool (!isN x))) M (Same.refl F) m (by rw [re_isN r1]; exact Rp.bl _) p⟩
/-! in -/
abbrev rInU (K : PySem.W.Frag) : R2 := rOr rInS (rOr (fun x y H Q => ∃ i j, x = .str i ∧ y = .str j ∧ Q (.bl (!(Builtin.Str.occurrences j i 0 j.length 1).isEmpty)) H) (rIn K false))
abbrev rNotInU (K : PySem.W.Frag) : R2 := rOr rNotInS (rOr (fun x y H Q => ∃ i j, x = .str i ∧ y = .str j ∧ Q (.bl (!(!(Builtin.Str.occurrences j i 0 j.length 1).isEmpty))) H) (rIn K true))
theorem op_inU {X : Cx} : OpR X (compareOp .In) (rInU X.K) := op_or2 op_in_sign (op_or2 op_in_str op_in_seq)
theorem op_notInU {X : Cx} : OpR X (compareOp .NotIn) (rNotInU X.K) := op_or2 op_notIn_sign (op_or2 op_notin_str op_notIn_seq)
theorem o_inC {c : Nat} {z : Str} (p : P (.d (.bool (decide (c ∈ z.cps.toList)))) M) : O2 J (rInU J.K) (.d (.str ⟨#[c]⟩)) (.d (.str z)) M P := o_l fun F Z H v u m xr r1 r2 Q q => by
  cases r1
  cases r2
  exact ⟨c, z, rfl, rfl, q _ F H (.d (.bool _)) M (Same.refl F) m (Rp.bl _) p⟩
theorem o_notInC {c : Nat} {z : Str} (p : P (.d (.bool (!decide (c ∈ z.cps.toList)))) M) : O2 J (rNotInU J.K) (.d (.str ⟨#[c]⟩)) (.d (.str z)) M P := o_l fun F Z H v u m xr r1 r2 Q q => by
  cases r1
  cases r2
  exact ⟨c, z, rfl, rfl, q _ F H (.d (.bool _)) M (Same.refl F) m (Rp.bl _) p⟩
theorem o_inT {i j : Str} (p : P (.d (.bool (!(Builtin.Str.occurrences j i 0 j.length 1).isEmpty))) M) : O2 J (rInU J.K) (.d (.str i)) (.d (.str j)) M P := o_r (o_l (o_SS (g := fun i j => .bl (!(Builtin.Str.occurrences j i 0 j.length 1).isEmpty)) (fun _ => Rp.bl _) p))
theorem inV_strs (s : Str) (ss : List Str) : inV (.str s) (ss.map V.str) = decide (s ∈ ss) := by
  induction ss with
  | nil => rfl
  | cons t ts ih =>
    show (eqV (.str t) (.str s) || inV (.str s) (ts.map V.str)) = _
    rw [ih]
    show ((t == s) || decide (s ∈ ts)) = _
    by_cases h : t = s
    · subst h
      simp
    · have h' : ¬ s = t := fun e => h e.symm
      simp [h, h']
theorem flat_strs (ss : List Str) : (ss.map V.str).all flatV = true := by
  induction ss with
  | nil => rfl
  | cons t ts ih => exact ih
theorem o_inTs {s : Str} {ss : List Str} (p : P (.d (.bool (decide (s ∈ ss)))) M) : O2 J (rInU J.K) (.d (.str s)) (.d (.tuple (ss.map PyData.str))) M P := o_r (o_r fun F Z H v u m xr r1 r2 Q q => by
  cases r1
  cases r2 with
  | tup e rs =>
    have ev := rs.strs
    subst ev
    refine ⟨_, _, rfl, .inr (sqT_mono m.sub e), rfl, flat_strs ss, ?_⟩
    rw [if_neg Bool.false_ne_true, inV_strs]
    exact q _ F H (.d (.bool _)) M (Same.refl F) m (Rp.bl _) p)
theorem o_notInTs {s : Str} {ss : List Str} (p : P (.d (.bool (!decide (s ∈ ss)))) M) : O2 J (rNotInU J.K) (.d (.str s)) (.d (.tuple (ss.map PyData.str))) M P := o_r (o_r fun F Z H v u m xr r1 r2 Q q => by
  cases r1
  cases r2 with
  | tup e rs =>
    have ev := rs.strs
    subst ev
    refine ⟨_, _, rfl, .inr (sqT_mono m.sub e), rfl, flat_strs ss, ?_⟩
    rw [if_pos rfl, inV_strs]
    exact q _ F H (.d (.bool _)) M (Same.refl F) m (Rp.bl _) p)
/-! items -/
theorem atI_map {α β : Type} (f : α → β) (xs : List α) (i : Int) : atI (xs.map f) i = (atI xs i).map f := by
  unfold atI
  rw [List.length_map]
  cases ixN xs.length i with
  | none => rfl
  | some j => simp
theorem atI_ex {K : PySem.W.Frag} {F : Hp} {vs : List V} {ds : List PyData} {i : Int} {d : PyData} (r : RpAll K F vs ds) (h : atI ds i = some d) : ∃ v, atI vs i = some v ∧ Rp K F v d := by
  unfold atI at h ⊢
  rw [r.length]
  cases e : ixN ds.length i with
  | none =>
    rw [e] at h
    cases h
  | some j =>
    rw [e] at h
    exact r.exGet h
theorem atE_ex {K : PySem.W.Frag} {F : Hp} {vs : List V} {ds : List Ent} {i : Int} {d : Ent} (r : REs K F vs ds) (h : atI ds i = some d) : ∃ v, atI vs i = some v ∧ RE K F v d := by
  unfold atI at h ⊢
  rw [r.length]
  cases e : ixN ds.length i with
  | none =>
    rw [e] at h
    cases h
  | some j =>
    rw [e] at h
    exact paired_get r h
theorem ixN_nat {n : Nat} {i : Int} (h0 : 0 ≤ i) (h1 : i < n) : ixN n i = some i.toNat := by
  unfold ixN
  rw [if_pos h0, if_pos h1]
theorem atI_nat' {α : Type} {xs : List α} {i : Int} {x : α} (h0 : 0 ≤ i) (h : xs[i.toNat]? = some x) : atI xs i = some x := by
  have h1 := (List.getElem?_eq_some_iff.mp h).1
  unfold atI
  rw [ixN_nat h0 (by omega)]
  exact h
theorem o_ixL {ds : List PyData} {i : Int} {d : PyData} (h : atI ds i = some d) (p : P (.d d) M) : O2 J (rIx J.K) (.d (.list ds)) (.d (.int i)) M P := fun F Z H v u m xr r1 r2 Q q => by
  cases r2
  cases r1 with
  | lst e rs =>
    obtain ⟨v, h1, h2⟩ := atI_ex rs h
    exact .inl ⟨_, _, i, v, rfl, rfl, .inl (.inl (m.sub _ _ e)), h1, q v F H (.d d) M (Same.refl F) m h2 p⟩
theorem o_ixW {ds : List PyData} {i : Int} {d : PyData} (h : atI ds i = some d) (p : P (.d d) M) : O2 J (rIx J.K) (.w ds) (.d (.int i)) M P := fun F Z H v u m xr r1 r2 Q q => by
  cases r2
  obtain ⟨a, vs, rfl, e, rs⟩ := r1
  obtain ⟨v, h1, h2⟩ := atI_ex rs h
  exact .inl ⟨_, _, i, v, rfl, rfl, m.sub.seq e, h1, q v F H (.d d) M (Same.refl F) m h2 p⟩
theorem o_ixT {ds : List PyData} {i : Int} {d : PyData} (h : atI ds i = some d) (p : P (.d d) M) : O2 J (rIx J.K) (.d (.tuple ds)) (.d (.int i)) M P := fun F Z H v u m xr r1 r2 Q q => by
  cases r2
  cases r1 with
  | tup e rs =>
    obtain ⟨v, h1, h2⟩ := atI_ex rs h
    exact .inr (.inl ⟨_, _, i, v, rfl, rfl, sqT_mono m.sub e, h1, q v F H (.d d) M (Same.refl F) m h2 p⟩)
theorem o_ixM {a : Addr} {es : List Ent} {i : Int} {d : Ent} (hm : M a = some (.lst es)) (h : atI es i = some d) (p : P d M) : O2 J (rIx J.K) (.r a) (.d (.int i)) M P := fun F Z H v u m xr r1 r2 Q q => by
  cases r2
  cases r1
  obtain ⟨vs, e, rs⟩ := m.list hm
  obtain ⟨v, h1, h2⟩ := atE_ex rs h
  exact .inl ⟨_, _, i, v, rfl, rfl, .inl (.inl e), h1, q v F H d M (Same.refl F) m h2 p⟩
theorem o_ixS {s : Str} {i : Int} {c : Nat} (hl : s.length ≤ sizeLine) (h : atI s.cps.toList i = some c) (p : P (.d (.str ⟨#[c]⟩)) M) : O2 J (rIx J.K) (.d (.str s)) (.d (.int i)) M P := fun F Z H v u m xr r1 r2 Q q => by
  cases r2
  cases r1
  exact .inr (.inr ⟨s, i, c, rfl, rfl, hl, h, q _ F H (.d (.str ⟨#[c]⟩)) M (Same.refl F) m (Rp.str _) p⟩)
end
/-! ## calls of built-ins -/
section
variable {J : Jx} {Γ : Ga} {M : Ms} {P : Ent → Ms → Prop} {r r' : List V → Hp → VK → Prop} {xs : List Ent} {t : TA}
def rOrN (r r' : List V → Hp → VK → Prop) : List V → Hp → VK → Prop := fun x H Q => r x H Q ∨ r' x H Q
theorem call_or {X : Cx} {f : Value} (h : CallR X f r) (h' : CallR X f r') : CallR X f (rOrN r r') := fun pins s σ H xs us Q I rx q => q.elim (h pins s σ H xs us Q I rx) (h' pins s σ H xs us Q I rx)
theorem n_l (h : ON J r xs M P) : ON J (rOrN r r') xs M P := fun F Z H vs m xr r1 Q q => .inl (h F Z H vs m xr r1 Q q)
theorem n_r (h : ON J r' xs M P) : ON J (rOrN r r') xs M P := fun F Z H vs m xr r1 Q q => .inr (h F Z H vs m xr r1 Q q)
theorem w_cb (h : WA J t Γ M fun es M1 => ON J r es M1 P) : Wx J (tCB r t) Γ M P := fun F Z σ H en m x Q q =>
  h F Z σ H en m x _ fun vs F1 H1 es M1 s1 m1 r1 h1 => h1 F1 Z H1 vs m1 (x.mono s1) r1 Q fun v F2 H2 e M2 s2 m2 r2 p => q v F2 H2 e M2 (s1.trans s2) m2 r2 p
theorem w_cb0 (h : ON J r [] M P) : Wx J (tCB r tNil) Γ M P := w_cb (wa_nil h)
abbrev rLenU (K : PySem.W.Frag) : List V → Hp → VK → Prop := fun xs H Q => ∃ x n, xs = [x] ∧ LenV K x H n ∧ Q (.int n) H
theorem n_lenS {s : Str} (hl : s.length ≤ sizeLine) (p : P (.d (.int (s.length : Int))) M) : ON J (rLenU J.K) [.d (.str s)] M P := fun F Z H vs m xr r1 Q q => by
  cases r1 with
  | cons r0 rt =>
    cases rt
    cases r0
    exact ⟨_, _, rfl, ⟨hl, rfl⟩, q _ F H (.d (.int _)) M (Same.refl F) m (Rp.int _) p⟩
theorem n_lenL {ds : List PyData} (p : P (.d (.int (ds.length : Int))) M) : ON J (rLenU J.K) [.d (.list ds)] M P := fun F Z H vs m xr r1 Q q => by
  cases r1 with
  | cons r0 rt =>
    cases rt
    cases r0 with
    | lst e rs => exact ⟨_, _, rfl, .inl ⟨_, .inl (.inl (m.sub _ _ e)), rs.length.symm⟩, q _ F H (.d (.int _)) M (Same.refl F) m (Rp.int _) p⟩
theorem n_lenT {ds : List PyData} (p : P (.d (.int (ds.length : Int))) M) : ON J (rLenU J.K) [.d (.tuple ds)] M P := fun F Z H vs m xr r1 Q q => by
  cases r1 with
  | cons r0 rt =>
    cases rt
    cases r0 with
    | tup e rs => exact ⟨_, _, rfl, .inr ⟨_, sqT_mono m.sub e, rs.length.symm⟩, q _ F H (.d (.int _)) M (Same.refl F) m (Rp.int _) p⟩
theorem n_lenW {ds : List PyData} (p : P (.d (.int (ds.length : Int))) M) : ON J (rLenU J.K) [.w ds] M P := fun F Z H vs m xr r1 Q q => by
  cases r1 with
  | cons r0 rt =>
    cases rt
    obtain ⟨a, vs, rfl, e, rs⟩ := r0
    exact ⟨_, _, rfl, .inl ⟨_, m.sub.seq e, rs.length.symm⟩, q _ F H (.d (.int _)) M (Same.refl F) m (Rp.int _) p⟩
theorem n_lenM {a : Addr} {es : List Ent} (hm : M a = some (.lst es)) (p : P (.d (.int (es.length : Int))) M) : ON J (rLenU J.K) [.r a] M P := fun F Z H vs m xr r1 Q q => by
  cases r1 with
  | cons r0 rt =>
    cases rt
    cases r0
    obtain ⟨vs, e, rs⟩ := m.list hm
    exact ⟨_, _, rfl, .inl ⟨_, .inl (.inl e), rs.length.symm⟩, q _ F H (.d (.int _)) M (Same.refl F) m (Rp.int _) p⟩
theorem n_abs {i : Int} (p : P (.d (.int (if i < 0 then -i else i))) M) : ON J (fun xs H Q => ∃ i, xs = [.int i] ∧ Q (.int (if i < 0 then -i else i)) H) [.d (.int i)] M P := fun F Z H vs m xr r1 Q q => by
  cases r1 with
  | cons r0 rt =>
    cases rt
    cases r0
    exact ⟨_, rfl, q _ F H (.d (.int _)) M (Same.refl F) m (Rp.int _) p⟩
theorem n_max2 {i j : Int} (p : P (.d (.int (if j > i then j else i))) M) : ON J (fun xs H Q => ∃ i j, xs = [.int i, .int j] ∧ Q (.int (if j > i then j else i)) H) [.d (.int i), .d (.int j)] M P := fun F Z H vs m xr r1 Q q => by
  cases r1 with
  | cons r0 rt =>
    cases rt with
    | cons r2 rt =>
      cases rt
      cases r0
      cases r2
      exact ⟨_, _, rfl, q _ F H (.d (.int _)) M (Same.refl F) m (Rp.int _) p⟩
theorem n_min2 {i j : Int} (p : P (.d (.int (if j < i then j else i))) M) : ON J (fun xs H Q => ∃ i j, xs = [.int i, .int j] ∧ Q (.int (if j < i then j else i)) H) [.d (.int i), .d (.int j)] M P := fun F Z H vs m xr r1 Q q => by
  cases r1 with
  | cons r0 rt =>
    cases rt with
    | cons r2 rt =>
      cases rt
      cases r0
      cases r2
      exact ⟨_, _, rfl, q _ F H (.d (.int _)) M (Same.refl F) m (Rp.int _) p⟩
abbrev rIntU : List V → Hp → VK → Prop := rOrN (fun xs H Q => (∃ i, xs = [.int i] ∧ Q (.int i) H) ∨ ∃ k, xs = [.bl k] ∧ Q (.int (if k then 1 else 0)) H) (fun xs H Q => ∃ a n, xs = [.str a] ∧ PySem.intText? a = some n ∧ a.length ≤ 640 ∧ Q (.int n) H)
theorem call_intU {X : Cx} : CallR X (.type "int") rIntU := call_or call_int1 call_int_str
theorem n_int {i : Int} (p : P (.d (.int i)) M) : ON J rIntU [.d (.int i)] M P := n_l fun F Z H vs m xr r1 Q q => by
  cases r1 with
  | cons r0 rt =>
    cases rt
    cases r0
    exact .inl ⟨_, rfl, q _ F H (.d (.int _)) M (Same.refl F) m (Rp.int _) p⟩
theorem n_intS {s : Str} {n : Int} (h : PySem.intText? s = some n) (hl : s.length ≤ 640) (p : P (.d (.int n)) M) : ON J rIntU [.d (.str s)] M P := n_r fun F Z H vs m xr r1 Q q => by
  cases r1 with
  | cons r0 rt =>
    cases rt
    cases r0
    exact ⟨_, _, rfl, h, hl, q _ F H (.d (.int _)) M (Same.refl F) m (Rp.int _) p⟩
theorem n_ord {c : Nat} (p : P (.d (.int (c : Int))) M) : ON J (fun xs H Q => ∃ x, xs = [.str x] ∧ x.length = 1 ∧ Q (.int (x.cps.getD 0 0 : Nat)) H) [.d (.str ⟨#[c]⟩)] M P := fun F Z H vs m xr r1 Q q => by
  cases r1 with
  | cons r0 rt =>
    cases rt
    cases r0
    exact ⟨_, rfl, rfl, q _ F H (.d (.int (c : Int))) M (Same.refl F) m (Rp.int _) p⟩
theorem n_sumW {ns : List Int} (p : P (.d (.int ns.sum)) M) : ON J (rSum J.K) [.w (ns.map PyData.int)] M P := fun F Z H vs m xr r1 Q q => by
  cases r1 with
  | cons r0 rt =>
    cases rt
    obtain ⟨a, vs, rfl, e, rs⟩ := r0
    have ev := rs.ints
    subst ev
    exact ⟨_, ns, rfl, m.sub.seq e, q _ F H (.d (.int _)) M (Same.refl F) m (Rp.int _) p⟩
theorem n_sum {ns : List Int} (p : P (.d (.int ns.sum)) M) : ON J (rSum J.K) [.d (.list (ns.map PyData.int))] M P := fun F Z H vs m xr r1 Q q => by
  cases r1 with
  | cons r0 rt =>
    cases rt
    cases r0 with
    | lst e rs =>
      have ev := rs.ints
      subst ev
      exact ⟨_, ns, rfl, .inl (.inl (m.sub _ _ e)), q _ F H (.d (.int _)) M (Same.refl F) m (Rp.int _) p⟩
theorem n_all {bs : List Bool} (p : P (.d (.bool (bs.all id))) M) : ON J (rAll J.K) [.d (.list (bs.map PyData.bool))] M P := fun F Z H vs m xr r1 Q q => by
  cases r1 with
  | cons r0 rt =>
    cases rt
    cases r0 with
    | lst e rs =>
      have ev := rs.bls
      subst ev
      exact ⟨_, bs, rfl, .inl (.inl (m.sub _ _ e)), q _ F H (.d (.bool _)) M (Same.refl F) m (Rp.bl _) p⟩
theorem n_any {bs : List Bool} (p : P (.d (.bool (bs.any id))) M) : ON J (rAny J.K) [.d (.list (bs.map PyData.bool))] M P := fun F Z H vs m xr r1 Q q => by
  cases r1 with
  | cons r0 rt =>
    cases rt
    cases r0 with
    | lst e rs =>
      have ev := rs.bls
      subst ev
      exact ⟨_, bs, rfl, .inl (.inl (m.sub _ _ e)), q _ F H (.d (.bool _)) M (Same.refl F) m (Rp.bl _) p⟩
abbrev rListU (K : PySem.W.Frag) : List V → Hp → VK → Prop := fun xs H Q => ∃ p ys, xs = [.ref p] ∧ (SqL K H p ys ∨ SqT K H p ys) ∧ ∀ l, H l = none → Q (.ref l) (upd H l (.lst ys))
theorem n_list {ds : List PyData} (p : P (.d (.list ds)) M) : ON J (rListU J.K) [.d (.list ds)] M P := fun F Z H vs m xr r1 Q q => by
  cases r1 with
  | cons r0 rt =>
    cases rt
    cases r0 with
    | lst e rs =>
      refine ⟨_, _, rfl, .inl (.inl (.inl (m.sub _ _ e))), fun a n => ?_⟩
      obtain ⟨s3, m3⟩ := m.newF (o := .lst _) n
      exact q _ _ _ (.d (.list ds)) M s3 m3 (Rp.lst upd_same (rs.mono s3)) p
theorem n_listW {ds : List PyData} (p : P (.d (.list ds)) M) : ON J (rListU J.K) [.w ds] M P := fun F Z H vs m xr r1 Q q => by
  cases r1 with
  | cons r0 rt =>
    cases rt
    obtain ⟨a, vs, rfl, e, rs⟩ := r0
    refine ⟨_, _, rfl, .inl (m.sub.seq e), fun a n => ?_⟩
    obtain ⟨s3, m3⟩ := m.newF (o := .lst _) n
    exact q _ _ _ (.d (.list ds)) M s3 m3 (Rp.lst upd_same (rs.mono s3)) p
/-- list(x) of a list that may change; the copy may change, too -/
theorem n_listM {ds : List PyData} (p : ∀ a, M a = none → P (.r a) (um M a (.lst (ds.map Ent.d)))) : ON J (rListU J.K) [.d (.list ds)] M P := fun F Z H vs m xr r1 Q q => by
  cases r1 with
  | cons r0 rt =>
    cases rt
    cases r0 with
    | lst e rs =>
      refine ⟨_, _, rfl, .inl (.inl (.inl (m.sub _ _ e))), fun a n => ?_⟩
      obtain ⟨nM, m3⟩ := m.newM (o := .lst _) (m := .lst (ds.map Ent.d)) n (res_of rs)
      exact q _ _ _ (.r a) _ (Same.refl F) m3 rfl (p a nM)
end
/-! ## methods of built-in types -/
section
variable {J : Jx} {Γ : Ga} {M : Ms} {P : Ent → Ms → Prop} {r : V → List V → Hp → VK → Prop} {x : Ent} {to te : TE} {t : TA} {T : String}
/-- the type of a value that has methods -/
def TyM (M : Ms) (T : String) : Ent → Prop
  | .d (.str _) => T = "str"
  | .d (.int _) => T = "int"
  | .d (.list _) => T = "list"
  | .w _ => T = "list"
  | .r a => T = "list" ∧ ∃ es, M a = some (.lst es)
  | _ => False
theorem tyM_ok {K : PySem.W.Frag} {F Z H : Hp} {v : V} {e : Ent} (m : Mem K F M Z H) (r : RE K F v e) (h : TyM M T e) : tyV K T v H := by
  cases e with
  | d x =>
    cases r with
    | str s => exact h
    | int s => exact h
    | lst e rs => exact .inl ⟨h, _, .inl (.inl (m.sub _ _ e))⟩
    | non => exact (h : False).elim
    | bl _ => exact (h : False).elim
    | tup _ _ => exact (h : False).elim
    | obj _ _ => exact (h : False).elim
  | r a =>
    obtain ⟨h1, es, h2⟩ := h
    obtain ⟨vs, e, _⟩ := m.list h2
    cases r
    exact .inl ⟨h1, vs, .inl (.inl e)⟩
  | t n => exact (h : False).elim
  | w xs =>
    obtain ⟨a, vs, rfl, e, rs⟩ := r
    exact .inl ⟨h, vs, m.sub.seq e⟩
theorem w_bm (h : Wx J to Γ M fun x M1 => TyM M1 T x ∧ WA J t Γ M1 fun es M2 => OM J r x es M2 P) : Wx J (tBM J.K T r to t) Γ M P := fun F Z σ H en m x Q q =>
  h F Z σ H en m x _ fun v F1 H1 e1 M1 s1 m1 r1 ⟨ht, h1⟩ => ⟨tyM_ok m1 r1 ht, h1 F1 Z σ H1 (en.mono s1) m1 (x.mono s1) _ fun vs F2 H2 es M2 s2 m2 r2 h2 =>
    h2 F2 Z H2 v vs m2 (x.mono (s1.trans s2)) (r1.mono s2) r2 Q fun w F3 H3 e3 M3 s3 m3 r3 p => q w F3 H3 e3 M3 ((s1.trans s2).trans s3) m3 r3 p⟩
theorem w_bm0 (h : Wx J to Γ M fun x M1 => TyM M1 T x ∧ OM J r x [] M1 P) : Wx J (tBM0 J.K T r to) Γ M P := fun F Z σ H en m x Q q =>
  h F Z σ H en m x _ fun v F1 H1 e1 M1 s1 m1 r1 ⟨ht, h1⟩ => ⟨tyM_ok m1 r1 ht, h1 F1 Z H1 v [] m1 (x.mono s1) r1 .nil Q fun w F3 H3 e3 M3 s3 m3 r3 p => q w F3 H3 e3 M3 (s1.trans s3) m3 r3 p⟩
theorem m_append {a : Addr} {es : List Ent} {y : Ent} (hm : M a = some (.lst es)) (hl : es.length < sizeLine) (p : P (.d .none) (um M a (.lst (es ++ [y])))) : OM J rAppend (.r a) [y] M P := fun F Z H v vs m xr r1 r2 Q q => by
  cases r1
  cases r2 with
  | cons r0 rt =>
    cases rt
    obtain ⟨vs, e, rs⟩ := m.list hm
    exact ⟨_, _, _, rfl, rfl, e, by rw [rs.length]; exact hl, q _ F _ (.d .none) _ (Same.refl F) (m.write (o := .lst _) (m := .lst (es ++ [y])) hm (paired_append rs (.cons r0 .nil))) Rp.non p⟩
theorem m_SS {g : Str → Str → V} {d : PyData} {a b : Str} (hg : ∀ F, Rp J.K F (g a b) d) (p : P (.d d) M) : OM J (fun x xs H Q => ∃ a b, x = .str a ∧ xs = [.str b] ∧ Q (g a b) H) (.d (.str a)) [.d (.str b)] M P := fun F Z H v vs m xr r1 r2 Q q => by
  cases r1
  cases r2 with
  | cons r0 rt =>
    cases rt
    cases r0
    exact ⟨a, b, rfl, rfl, q _ F H (.d d) M (Same.refl F) m (hg F) p⟩
theorem m_startswith {a b : Str} (p : P (.d (.bool (Txt.startswith a b))) M) : OM J (fun x xs H Q => ∃ a b, x = .str a ∧ xs = [.str b] ∧ Q (.bl (Txt.startswith a b)) H) (.d (.str a)) [.d (.str b)] M P := m_SS (g := fun a b => .bl (Txt.startswith a b)) (fun _ => Rp.bl _) p
theorem m_endswith {a b : Str} (p : P (.d (.bool (Txt.endswith a b))) M) : OM J (fun x xs H Q => ∃ a b, x = .str a ∧ xs = [.str b] ∧ Q (.bl (Txt.endswith a b)) H) (.d (.str a)) [.d (.str b)] M P := m_SS (g := fun a b => .bl (Txt.endswith a b)) (fun _ => Rp.bl _) p
theorem m_find {a b : Str} (p : P (.d (.int (Txt.find a b))) M) : OM J (fun x xs H Q => ∃ a b, x = .str a ∧ xs = [.str b] ∧ Q (.int (Txt.find a b)) H) (.d (.str a)) [.d (.str b)] M P := m_SS (g := fun a b => .int (Txt.find a b)) (fun _ => Rp.int _) p
theorem m_strip {a b : Str} (hl : a.length ≤ sizeLine) (p : P (.d (.str (Txt.stripChars a b))) M) : OM J (fun x xs H Q => ∃ a b, x = .str a ∧ xs = [.str b] ∧ a.length ≤ sizeLine ∧ Q (.str (Txt.stripChars a b)) H) (.d (.str a)) [.d (.str b)] M P := fun F Z H v vs m xr r1 r2 Q q => by
  cases r1
  cases r2 with
  | cons r0 rt =>
    cases rt
    cases r0
    exact ⟨a, b, rfl, rfl, hl, q _ F H (.d (.str _)) M (Same.refl F) m (Rp.str _) p⟩
theorem m_split {a b : Str} (hb : (b.length == 0) = false) (hl : a.length + 2 ≤ sizeLine) (p : P (.d (.list ((Txt.split a b).map PyData.str))) M) : OM J (fun x xs H Q => ∃ a b, x = .str a ∧ xs = [.str b] ∧ (b.length == 0) = false ∧ a.length + 2 ≤ sizeLine ∧ rNewStrs (Txt.split a b) H Q) (.d (.str a)) [.d (.str b)] M P := fun F Z H v vs m xr r1 r2 Q q => by
  cases r1
  cases r2 with
  | cons r0 rt =>
    cases rt
    cases r0
    refine ⟨a, b, rfl, rfl, hb, hl, fun l n => ?_⟩
    obtain ⟨s3, m3⟩ := m.newF (o := .lst _) n
    exact q _ _ _ (.d (.list _)) M s3 m3 (Rp.lst upd_same (RpAll.ofStrs _)) p
theorem m_join {a : Str} {ys : List Str} (hl : (ys.map (·.length)).sum + ys.length * a.length ≤ 16777216) (p : P (.d (.str (Txt.join a ys))) M) : OM J (fun x xs H Q => ∃ a p, ∃ ys : List Str, x = .str a ∧ xs = [.ref p] ∧ (SqL J.K H p (ys.map V.str) ∨ SqT J.K H p (ys.map V.str)) ∧
    (ys.map (·.length)).sum + ys.length * a.length ≤ 16777216 ∧ Q (.str (Txt.join a ys)) H) (.d (.str a)) [.d (.list (ys.map PyData.str))] M P := fun F Z H v vs m xr r1 r2 Q q => by
  cases r1
  cases r2 with
  | cons r0 rt =>
    cases rt
    cases r0 with
    | lst e rs =>
      have ev := rs.strs
      subst ev
      exact ⟨a, _, ys, rfl, rfl, .inl (.inl (.inl (m.sub _ _ e))), hl, q _ F H (.d (.str _)) M (Same.refl F) m (Rp.str _) p⟩
theorem w_m1 (h : Wx J to Γ M fun x M1 => (∃ s, x = .d (.str s)) ∧ Wx J te Γ M1 fun y M2 => OM J r x [y] M2 P) : Wx J (tM1 r to te) Γ M P := fun F Z σ H en m x Q q =>
  h F Z σ H en m x _ fun v F1 H1 e1 M1 s1 m1 r1 ⟨⟨s, hs⟩, h1⟩ => by
    subst hs
    have r1' := r1
    cases r1
    exact ⟨⟨_, rfl⟩, h1 F1 Z σ H1 (en.mono s1) m1 (x.mono s1) _ fun u F2 H2 es M2 s2 m2 r2 h2 =>
      h2 F2 Z H2 _ [u] m2 (x.mono (s1.trans s2)) (Rp.str s) (.cons r2 .nil) Q fun w F3 H3 e3 M3 s3 m3 r3 p => q w F3 H3 e3 M3 ((s1.trans s2).trans s3) m3 r3 p⟩
end
/-! ## slices -/
section
variable {J : Jx} {Γ : Ga} {M : Ms} {te : TE} {B : Option Int → Ms → Prop}
def WO (J : Jx) (t : TO) (Γ : Ga) (M : Ms) (P : Option Int → Ms → Prop) : Prop := ∀ F Z σ H, EnvOk J.K F σ Γ → Mem J.K F M Z H → XR J F Z → ∀ Q : Option Int → Hp → Prop,
  (∀ o F' H' M', Same F F' → Mem J.K F' M' Z H' → P o M' → Q o H') → t σ H Q
theorem wo_none (p : B none M) : WO J tNoPart Γ M B := fun F Z σ H en m x Q q => q none F H M (Same.refl F) m p
theorem wo_some (h : Wx J te Γ M fun e M1 => ∃ i, e = .d (.int i) ∧ B (some i) M1) : WO J (tPart te) Γ M B := fun F Z σ H en m x Q q =>
  h F Z σ H en m x _ fun v F1 H1 e M1 s1 m1 r1 ⟨i, ei, p⟩ => by
    subst ei
    cases r1
    exact ⟨i, rfl, q _ F1 H1 M1 s1 m1 p⟩
end
section
variable {J : Jx} {Γ : Ga} {M : Ms} {P : Ent → Ms → Prop} {te tx : TE} {tl th : TO} {B : Option Int → Ms → Prop}
def OS (J : Jx) (r : V → Option Int → Option Int → Hp → VK → Prop) (x : Ent) (lo hi : Option Int) (M : Ms) (P : Ent → Ms → Prop) : Prop := ∀ F Z H v, Mem J.K F M Z H → XR J F Z → RE J.K F v x → ∀ Q : VK,
  (∀ v F' H' e M', Same F F' → Mem J.K F' M' Z H' → RE J.K F' v e → P e M' → Q v H') → r v lo hi H Q
theorem w_slice {r : V → Option Int → Option Int → Hp → VK → Prop} (h : Wx J te Γ M fun x M1 => WO J tl Γ M1 fun lo M2 => WO J th Γ M2 fun hi M3 => OS J r x lo hi M3 P) : Wx J (tSl r te tl th) Γ M P := fun F Z σ H en m x Q q =>
  h F Z σ H en m x _ fun v F1 H1 e1 M1 s1 m1 r1 h1 => h1 F1 Z σ H1 (en.mono s1) m1 (x.mono s1) _ fun lo F2 H2 M2 s2 m2 h2 =>
    h2 F2 Z σ H2 (en.mono (s1.trans s2)) m2 (x.mono (s1.trans s2)) _ fun hi F3 H3 M3 s3 m3 h3 => h3 F3 Z H3 v m3 (x.mono ((s1.trans s2).trans s3)) (r1.mono (s2.trans s3)) Q
      fun w F4 H4 e4 M4 s4 m4 r4 p => q w F4 H4 e4 M4 (((s1.trans s2).trans s3).trans s4) m4 r4 p
abbrev rSlU (K : PySem.W.Frag) : V → Option Int → Option Int → Hp → VK → Prop := fun x lo hi H Q => rSlS x lo hi H Q ∨ rSlL K x lo hi H Q
theorem sl_or {X : Cx} {r r' : V → Option Int → Option Int → Hp → VK → Prop} (h : SlR X r) (h' : SlR X r') : SlR X (fun x lo hi H Q => r x lo hi H Q ∨ r' x lo hi H Q) := fun pins s σ H x v vl vu lo hi sl Q I rx i1 i2 i3 q => q.elim (h pins s σ H x v vl vu lo hi sl Q I rx i1 i2 i3) (h' pins s σ H x v vl vu lo hi sl Q I rx i1 i2 i3)
theorem sl_U {X : Cx} : SlR X (rSlU X.K) := sl_or sl_str sl_list
theorem l_str {s : Str} {lo hi : Option Int} (hl : s.length ≤ sizeLine) (p : P (.d (.str (cutS s lo hi))) M) : OS J (rSlU J.K) (.d (.str s)) lo hi M P := fun F Z H v m xr r1 Q q => by
  cases r1
  exact .inl ⟨s, rfl, hl, q _ F H (.d (.str _)) M (Same.refl F) m (Rp.str _) p⟩
def cutD (xs : List PyData) (lo hi : Option Int) : List PyData := (xs.drop (HT.sIx xs.length 0 lo)).take (HT.sIx xs.length xs.length hi - HT.sIx xs.length 0 lo)
theorem cut_rp {K : PySem.W.Frag} {F : Hp} {vs : List V} {ds : List PyData} (r : RpAll K F vs ds) (lo hi : Option Int) : RpAll K F (cutV vs lo hi) (cutD ds lo hi) := by
  unfold cutV cutD
  rw [r.length]
  exact (r.drop _).take _
theorem l_list {ds : List PyData} {lo hi : Option Int} (p : P (.d (.list (cutD ds lo hi))) M) : OS J (rSlU J.K) (.d (.list ds)) lo hi M P := fun F Z H v m xr r1 Q q => by
  cases r1 with
  | lst e rs =>
    refine .inr ⟨_, _, rfl, .inl (.inl (m.sub _ _ e)), fun a n => ?_⟩
    obtain ⟨s3, m3⟩ := m.newF (o := .lst _) n
    exact q _ _ _ (.d (.list _)) M s3 m3 (Rp.lst upd_same ((cut_rp rs lo hi).mono s3)) p
theorem l_listW {ds : List PyData} {lo hi : Option Int} (p : P (.d (.list (cutD ds lo hi))) M) : OS J (rSlU J.K) (.w ds) lo hi M P := fun F Z H v m xr r1 Q q => by
  obtain ⟨a, vs, rfl, e, rs⟩ := r1
  refine .inr ⟨_, _, rfl, m.sub.seq e, fun a n => ?_⟩
  obtain ⟨s3, m3⟩ := m.newF (o := .lst _) n
  exact q _ _ _ (.d (.list _)) M s3 m3 (Rp.lst upd_same ((cut_rp rs lo hi).mono s3)) p
end
end Z
set_option Elab.async false
set_option linter.all false
set_option maxRecDepth 100000
set_option maxHeartbeats 4000000
namespace Z
open PySem PySem.Spec L2
/-! ## what is walked -/
/-- J gives the items its, one by one, as long as G holds of what may change -/
structure AW (K : PySem.W.Frag) (F Z : Hp) (I : It) (its : List Ent) (G : Ms → Prop) : Prop where
  goes : ∀ F1 M H i, Same F F1 → Mem K F1 M Z H → G M → i < its.length → I.go i H
  stops : ∀ F1 M H, Same F F1 → Mem K F1 M Z H → G M → I.stop its.length H
  yields : ∀ F1 M H i x H', Same F F1 → Mem K F1 M Z H → G M → i < its.length → I.yld i H x H' → ∃ F2 e, Same F1 F2 ∧ Mem K F2 M Z H' ∧ its[i]? = some e ∧ RE K F2 x e
def WI (J : Jx) (wi : TI) (Γ : Ga) (M : Ms) (P : List Ent → (Ms → Prop) → Ms → Prop) : Prop := ∀ F Z σ H, EnvOk J.K F σ Γ → Mem J.K F M Z H → XR J F Z → ∀ R : It → Hp → Prop,
  (∀ I F' H' M' its G, Same F F' → Mem J.K F' M' Z H' → (∀ Z', (∀ a o, Z a = some o → Z' a = some o) → AW J.K F' Z' I its G) → P its G M' → R I H') → wi σ H R
abbrev GT0 : Ms → Prop := fun _ => True
section
variable {J : Jx} {Γ : Ga} {M : Ms} {P : List Ent → (Ms → Prop) → Ms → Prop} {te : TE} {ta : TA}
/-- an item that stands still -/
theorem aw_at {K : PySem.W.Frag} {F Z : Hp} {I : It} {ds : List PyData} {vs : List V} {S : Hp → Prop} {G : Ms → Prop} (w : Walk I vs.length S (YAt vs)) (hS : ∀ F1 M H, Same F F1 → Mem K F1 M Z H → G M → S H) (r : RpAll K F vs ds) : AW K F Z I (ds.map Ent.d) G where
  goes := fun F1 M H i s m g hi => w.goes i H (by rw [r.length]; rw [List.length_map] at hi; exact hi) (hS F1 M H s m g)
  stops := fun F1 M H s m g => by
    have q := w.stops H (hS F1 M H s m g)
    rw [r.length] at q
    rw [List.length_map]
    exact q
  yields := fun F1 M H i x H' s m g hi y => by
    rw [List.length_map] at hi
    obtain ⟨e1, e2⟩ := w.yields i H x H' (by rw [r.length]; exact hi) (hS F1 M H s m g) y
    subst e1
    refine ⟨F1, .d ds[i], Same.refl F1, m, by rw [List.getElem?_map, List.getElem?_eq_getElem hi]; rfl, ?_⟩
    exact (r.get e2 (List.getElem?_eq_getElem hi)).mono s
theorem wi_list (h : Wx J te Γ M fun x M1 => ∃ ds, x = .d (.list ds) ∧ P (ds.map Ent.d) GT0 M1) : WI J (iList J.K te) Γ M P := fun F Z σ H en m x R q =>
  h F Z σ H en m x _ fun v F1 H1 e M1 s1 m1 r1 ⟨ds, ed, p⟩ => by
    subst ed
    cases r1 with
    | lst ea rs => exact ⟨_, rfl, ⟨_, .inl (.inl (m1.sub _ _ ea))⟩, q _ F1 H1 M1 _ GT0 s1 m1 (fun Z' _ => aw_at walk_list (fun F2 M2 H2 s2 m2 _ => .inl (.inl (m2.sub _ _ (s2 _ _ ea)))) rs) p⟩
theorem wi_listW (h : Wx J te Γ M fun x M1 => ∃ ds, x = .w ds ∧ P (ds.map Ent.d) GT0 M1) : WI J (iList J.K te) Γ M P := fun F Z σ H en m x R q =>
  h F Z σ H en m x _ fun v F1 H1 e M1 s1 m1 r1 ⟨ds, ed, p⟩ => by
    subst ed
    obtain ⟨a, vs, rfl, ea, rs⟩ := r1
    exact ⟨_, rfl, ⟨_, m1.sub.seq ea⟩, q _ F1 H1 M1 _ GT0 s1 m1 (fun Z' _ => aw_at walk_list (fun F2 M2 H2 s2 m2 _ => m2.sub.seq (s2.seq ea)) rs) p⟩
theorem wi_tup (h : Wx J te Γ M fun x M1 => ∃ ds, x = .d (.tuple ds) ∧ P (ds.map Ent.d) GT0 M1) : WI J (iTup J.K te) Γ M P := fun F Z σ H en m x R q =>
  h F Z σ H en m x _ fun v F1 H1 e M1 s1 m1 r1 ⟨ds, ed, p⟩ => by
    subst ed
    cases r1 with
    | tup ea rs => exact ⟨_, rfl, ⟨_, sqT_mono m1.sub ea⟩, q _ F1 H1 M1 _ GT0 s1 m1 (fun Z' _ => aw_at walk_tup (fun F2 M2 H2 s2 m2 _ => sqT_mono m2.sub (sqT_mono s2 ea)) rs) p⟩
/-- a list that may change, but does not while it is walked -/
theorem wi_listM (h : Wx J te Γ M fun x M1 => ∃ a es, x = .r a ∧ M1 a = some (.lst es) ∧ P es (fun M2 => M2 a = some (.lst es)) M1) : WI J (iList J.K te) Γ M P := fun F Z σ H en m x R q =>
  h F Z σ H en m x _ fun v F1 H1 e M1 s1 m1 r1 ⟨a, es, ed, hm, p⟩ => by
    subst ed
    cases r1
    obtain ⟨vs, ea, rs⟩ := m1.list hm
    refine ⟨_, rfl, ⟨_, .inl (.inl ea)⟩, q _ F1 H1 M1 _ _ s1 m1 (fun Z' _ => ⟨fun F2 M2 H2 i s2 m2 g hi => ?_, fun F2 M2 H2 s2 m2 g => ?_, fun F2 M2 H2 i x H' s2 m2 g hi y => ?_⟩) p⟩
    · obtain ⟨ws, eb, qs⟩ := m2.list g
      exact (walk_list (xs := ws)).goes i H2 (by rw [qs.length]; exact hi) (.inl (.inl eb))
    · obtain ⟨ws, eb, qs⟩ := m2.list g
      have z := (walk_list (K := J.K) (a := a) (xs := ws)).stops H2 (.inl (.inl eb))
      rw [qs.length] at z
      exact z
    · obtain ⟨ws, eb, qs⟩ := m2.list g
      obtain ⟨e1, e2⟩ := (walk_list (K := J.K) (a := a) (xs := ws)).yields i H2 x H' (by rw [qs.length]; exact hi) (.inl (.inl eb)) y
      subst e1
      have e3 : es[i]? = some es[i] := List.getElem?_eq_getElem hi
      obtain ⟨x', e4, r4⟩ := paired_get qs e3
      rw [e2] at e4
      cases e4
      exact ⟨F2, es[i], Same.refl F2, m2, e3, r4⟩
theorem aw_fn {K : PySem.W.Frag} {F Z : Hp} {I : It} {n : Nat} {f : Nat → V} {g : Nat → PyData} (w : Walk I n (fun _ => True) (YFn f)) (hg : ∀ i F, Rp K F (f i) (g i)) : AW K F Z I ((List.range n).map fun i => Ent.d (g i)) GT0 where
  goes := fun F1 M H i s m _ hi => w.goes i H (by simpa using hi) trivial
  stops := fun F1 M H s m _ => by
    have q := w.stops H trivial
    simpa using q
  yields := fun F1 M H i x H' s m _ hi y => by
    have hi' : i < n := by simpa using hi
    obtain ⟨e1, e2⟩ := w.yields i H x H' hi' trivial y
    subst e1
    subst e2
    exact ⟨F1, .d (g i), Same.refl F1, m, by rw [List.getElem?_map, List.getElem?_range hi']; rfl, hg i F1⟩
/-- the ints lo, lo + 1, .. -/
def rgE (lo : Int) (n : Nat) : List Ent := (List.range n).map fun i => Ent.d (.int (lo + (i : Nat)))
theorem rgE_len (lo : Int) (n : Nat) : (rgE lo n).length = n := by simp [rgE]
theorem rgE_get {lo : Int} {n i : Nat} {e : Ent} (h : (rgE lo n)[i]? = some e) : i < n ∧ e = .d (.int (lo + (i : Nat))) := by
  have hi : i < n := by
    have := (List.getElem?_eq_some_iff.mp h).1
    rwa [rgE_len] at this
  refine ⟨hi, ?_⟩
  unfold rgE at h
  rw [List.getElem?_map, List.getElem?_range hi] at h
  exact (Option.some.inj h).symm
theorem wi_range1 (h : WA J ta Γ M fun es M1 => ∃ j, es = [.d (.int j)] ∧ -(2 ^ 62) ≤ j ∧ j < 2 ^ 62 ∧ P (rgE 0 j.toNat) GT0 M1) : WI J (iRng1 ta) Γ M P := fun F Z σ H en m x R q =>
  h F Z σ H en m x _ fun vs F1 H1 es M1 s1 m1 r1 ⟨j, ed, h1, h2, p⟩ => by
    subst ed
    cases r1 with
    | cons r0 rt =>
      cases rt
      cases r0
      exact ⟨j, rfl, h1, h2, q _ F1 H1 M1 _ GT0 s1 m1 (fun Z' _ => aw_fn walk_range fun i F => Rp.int _) p⟩
theorem wi_range2 (h : WA J ta Γ M fun es M1 => ∃ i j, es = [.d (.int i), .d (.int j)] ∧ (-(2 ^ 62) ≤ i ∧ i < 2 ^ 62 ∧ -(2 ^ 62) ≤ j ∧ j < 2 ^ 62) ∧ P (rgE i (j - i).toNat) GT0 M1) : WI J (iRng2 ta) Γ M P := fun F Z σ H en m x R q =>
  h F Z σ H en m x _ fun vs F1 H1 es M1 s1 m1 r1 ⟨i, j, ed, h1, p⟩ => by
    subst ed
    cases r1 with
    | cons r0 rt =>
      cases rt with
      | cons r2 rt =>
        cases rt
        cases r0
        cases r2
        exact ⟨i, j, rfl, h1, q _ F1 H1 M1 _ GT0 s1 m1 (fun Z' _ => aw_fn walk_range fun i F => Rp.int _) p⟩
/-- the signs of a text -/
def sgE (s : Str) : List Ent := s.cps.toList.map fun c => Ent.d (.str ⟨#[c]⟩)
theorem sgE_len (s : Str) : (sgE s).length = s.length := by simp [sgE, Str.length]
theorem sgE_get {s : Str} {i : Nat} {e : Ent} (h : (sgE s)[i]? = some e) : ∃ c, s.cps.toList[i]? = some c ∧ e = .d (.str ⟨#[c]⟩) := by
  unfold sgE at h
  rw [List.getElem?_map] at h
  cases q : s.cps.toList[i]? with
  | none =>
    rw [q] at h
    cases h
  | some c =>
    rw [q] at h
    exact ⟨c, rfl, (Option.some.inj h).symm⟩
theorem wi_str (h : Wx J te Γ M fun x M1 => ∃ s, x = .d (.str s) ∧ P (sgE s) GT0 M1) : WI J (iStr te) Γ M P := fun F Z σ H en m x R q =>
  h F Z σ H en m x _ fun v F1 H1 e M1 s1 m1 r1 ⟨s, ed, p⟩ => by
    subst ed
    cases r1
    refine ⟨s, rfl, q _ F1 H1 M1 _ GT0 s1 m1 (fun Z' _ => ⟨fun F2 M2 H2 i s2 m2 _ hi => ?_, fun F2 M2 H2 s2 m2 _ => ?_, fun F2 M2 H2 i x H' s2 m2 _ hi y => ?_⟩) p⟩
    · rw [sgE_len] at hi
      exact walk_str.goes i H2 hi trivial
    · rw [sgE_len]
      exact walk_str.stops H2 trivial
    · rw [sgE_len] at hi
      obtain ⟨e1, c, e2, e3⟩ := walk_str.yields i H2 x H' hi trivial y
      subst e1
      subst e3
      refine ⟨F2, .d (.str ⟨#[c]⟩), Same.refl F2, m2, ?_, Rp.str _⟩
      unfold sgE
      rw [List.getElem?_map, Array.getElem?_toList, e2]
      rfl
end
/-! ## loops -/
section
variable {J : Jx} {Γ : Ga} {M : Ms} {D : Nd} {wi : TI} {g : TG} {tb : TS} {tt : TT} {te : TE} {P : Ent → Ms → Prop}
theorem s_for (h : WI J wi Γ M fun its G M1 => ∃ Iv : Nat → Ga → Ms → Prop, Iv 0 Γ M1 ∧ (∀ i Γ' M', i ≤ its.length → Iv i Γ' M' → G M') ∧
    (∀ i e Γ' M', its[i]? = some e → Iv i Γ' M' → GT J g e Γ' M' fun Γ2 M2 => Sx J tb { D with nx := Iv (i + 1), ct := Iv (i + 1), bk := D.nx } Γ2 M2) ∧ (∀ Γ' M', Iv its.length Γ' M' → D.nx Γ' M')) : Sx J (tFor wi g tb) D Γ M := fun F Z σ H C en m x d =>
  h F Z σ H en m x _ fun I F1 H1 M1 its G s1 m1 aw ⟨Iv, h0, hG, hs, hd⟩ => by
    have aw1 := aw Z fun _ _ z => z
    refine ⟨fun i n σ' H' => n = its.length - i ∧ i ≤ its.length ∧ ∃ F' Γ' M', Same F1 F' ∧ EnvOk J.K F' σ' Γ' ∧ Mem J.K F' M' Z H' ∧ Iv i Γ' M', ⟨its.length, by simp, Nat.zero_le _, F1, Γ, M1, Same.refl F1, en.mono s1, m1, h0⟩, ?_⟩
    rintro i n σ' H' ⟨rfl, hi, F', Γ', M', s', e', m', iv⟩
    have g' := hG i Γ' M' hi iv
    by_cases hlt : i < its.length
    · refine .inr ⟨aw1.goes F' M' H' i s' m' g' hlt, fun σ2 H2 => ∃ F' Γ' M', Same F1 F' ∧ EnvOk J.K F' σ2 Γ' ∧ Mem J.K F' M' Z H2 ∧ Iv (i + 1) Γ' M', fun σ2 H2 q => ⟨its.length - (i + 1), by omega, rfl, hlt, q⟩, fun v H2 y => ?_⟩
      obtain ⟨F2, e, s2, m2, ei, r2⟩ := aw1.yields F' M' H' i v H2 s' m' g' hlt y
      refine hs i e Γ' M' ei iv F2 Z σ' H2 v (e'.mono s2) m2 (x.mono ((s1.trans s').trans s2)) r2 _ fun F3 H3 σ3 Γ3 M3 s3 m3 e3 k => ?_
      have s03 := ((s1.trans s').trans s2).trans s3
      have s13 := (s'.trans s2).trans s3
      exact k F3 Z σ3 H3 _ e3 m3 (x.mono s03) ⟨fun F4 M4 H4 σ4 Γ4 s4 m4 e4 q => ⟨F4, Γ4, M4, s13.trans s4, e4, m4, q⟩, (d.mono s03).rt, (d.mono s03).nx, fun F4 M4 H4 σ4 Γ4 s4 m4 e4 q => ⟨F4, Γ4, M4, s13.trans s4, e4, m4, q⟩⟩
    · have e : i = its.length := by omega
      subst e
      exact .inl ⟨aw1.stops F' M' H' s' m' g', (d.mono (s1.trans s')).nx F' M' H' σ' Γ' (Same.refl F') m' e' (hd Γ' M' iv)⟩
theorem s_while {c : TT} (Iv : Nat → Ga → Ms → Prop) (n0 : Nat) (h0 : Iv n0 Γ M) (hs : ∀ n Γ' M', Iv n Γ' M' → WT J c Γ' M' fun b M1 => (b = true → Sx J tb { D with nx := fun Γ2 M2 => ∃ n2, n2 < n ∧ Iv n2 Γ2 M2, ct := fun Γ2 M2 => ∃ n2, n2 < n ∧ Iv n2 Γ2 M2, bk := D.nx } Γ' M1) ∧ (b = false → D.nx Γ' M1)) :
    Sx J (tWhile c tb) D Γ M := fun F Z σ H C en m x d => by
  refine ⟨fun n σ' H' => ∃ F' Γ' M', Same F F' ∧ EnvOk J.K F' σ' Γ' ∧ Mem J.K F' M' Z H' ∧ Iv n Γ' M', ⟨n0, F, Γ, M, Same.refl F, en, m, h0⟩, ?_⟩
  rintro n σ' H' ⟨F', Γ', M', s', e', m', iv⟩
  refine hs n Γ' M' iv F' Z σ' H' e' m' (x.mono s') _ fun b F1 H1 M1 s1 m1 ⟨h1, h2⟩ => ?_
  cases b with
  | true =>
    rw [if_pos rfl]
    refine ⟨fun σ2 H2 => ∃ n2, n2 < n ∧ ∃ F' Γ' M', Same F F' ∧ EnvOk J.K F' σ2 Γ' ∧ Mem J.K F' M' Z H2 ∧ Iv n2 Γ' M', fun σ2 H2 ⟨n2, l, q⟩ => ⟨n2, l, q⟩, ?_⟩
    have s01 := s'.trans s1
    exact h1 rfl F1 Z σ' H1 _ (e'.mono s1) m1 (x.mono s01) ⟨fun F4 M4 H4 σ4 Γ4 s4 m4 e4 ⟨n2, l, q⟩ => ⟨n2, l, F4, Γ4, M4, s01.trans s4, e4, m4, q⟩, (d.mono s01).rt, (d.mono s01).nx, fun F4 M4 H4 σ4 Γ4 s4 m4 e4 ⟨n2, l, q⟩ => ⟨n2, l, F4, Γ4, M4, s01.trans s4, e4, m4, q⟩⟩
  | false =>
    rw [if_neg Bool.false_ne_true]
    exact d.nx F1 M1 H1 σ' Γ' (s'.trans s1) m1 (e'.mono s1) (h2 rfl)
end
/-! ## comprehensions -/
def wipeG (Γ : Ga) : List Nat → Ga
  | [] => Γ
  | i :: r => (wipeG Γ r).set i none
theorem EnvOk.wipe {K : PySem.W.Frag} {F : Hp} {σ : L2.St} {Γ : Ga} (h : EnvOk K F σ Γ) : ∀ vs : List Nat, EnvOk K F (wipe σ vs) (wipeG Γ vs)
  | [] => h
  | v :: vs => (EnvOk.wipe h vs).wipe1 v none
theorem wipe_set_any {j : Nat} {x : Option V} (y : Option V) : ∀ (vs : List Nat) (σ : L2.St), (wipe (σ.set j x) vs).set j y = (wipe σ vs).set j y
  | [], σ => by show (σ.set j x).set j y = σ.set j y; rw [List.set_set]
  | v :: vs, σ => by
    show ((wipe (σ.set j x) vs).set v none).set j y = ((wipe σ vs).set v none).set j y
    by_cases h : v = j
    · subst h
      rw [List.set_set, List.set_set, wipe_set_any y vs σ]
    · rw [List.set_comm _ _ h, List.set_comm _ _ h, wipe_set_any y vs σ]
theorem wipe_set_mem {j : Nat} {x : Option V} : ∀ {vs : List Nat} (σ : L2.St), j ∈ vs → wipe (σ.set j x) vs = wipe σ vs
  | v :: vs, σ, h => by
    show (wipe (σ.set j x) vs).set v none = (wipe σ vs).set v none
    by_cases e : v = j
    · subst e
      exact wipe_set_any none vs σ
    · rw [wipe_set_mem σ ((List.mem_cons.mp h).resolve_left fun q => e q.symm)]
theorem wipe_wipe (σ : L2.St) : ∀ vs ws : List Nat, (∀ i ∈ ws, i ∈ vs) → wipe (wipe σ ws) vs = wipe σ vs
  | vs, [], _ => rfl
  | vs, w :: ws, h => by
    show wipe ((wipe σ ws).set w none) vs = wipe σ vs
    rw [wipe_set_mem _ (h w (List.mem_cons_self ..)), wipe_wipe σ vs ws fun i hi => h i (List.mem_cons_of_mem _ hi)]
/-- the target stores names of vs alone -/
def WpOk (g : TG) (vs : List Nat) : Prop := ∀ v σ H (Q : L2.St → Hp → Prop), g v σ H Q → g v σ H fun σ2 H2 => wipe σ2 vs = wipe σ vs ∧ Q σ2 H2
def WpsOk (g : TGs) (vs : List Nat) : Prop := ∀ v σ H (Q : L2.St → Hp → Prop), g v σ H Q → g v σ H fun σ2 H2 => wipe σ2 vs = wipe σ vs ∧ Q σ2 H2
theorem wp_name {j : Nat} {vs : List Nat} (h : j ∈ vs) : WpOk (gName j) vs := fun v σ H Q q => ⟨wipe_set_mem σ h, q⟩
theorem wps_nil {vs : List Nat} : WpsOk gNil vs := fun v σ H Q q => ⟨q.1, rfl, q.2⟩
theorem wps_cons {j : Nat} {u : TGs} {vs : List Nat} (h : j ∈ vs) (hu : WpsOk u vs) : WpsOk (gCons (gName j) u) vs := fun v σ H Q ⟨x, r, e, q⟩ => by
  refine ⟨x, r, e, ?_⟩
  have q2 := hu r (σ.set j (some x)) H Q q
  show u r (σ.set j (some x)) H _
  rw [wipe_set_mem σ h] at q2
  exact q2
theorem wp_tup {K : PySem.W.Frag} {n : Nat} {u : TGs} {vs : List Nat} (hu : WpsOk u vs) : WpOk (gTup K n u) vs := fun v σ H Q ⟨a, xs, e1, e2, e3, q⟩ => ⟨a, xs, e1, e2, e3, hu xs σ H Q q⟩
theorem Mem.lessZ {K : PySem.W.Frag} {F Z Z' H : Hp} {M : Ms} (h : Mem K F M Z' H) (s : ∀ a o, Z a = some o → Z' a = some o) : Mem K F M Z H := ⟨h.sub, h.chg, fun a o e => h.out a o (s a o e)⟩
theorem XR.moreZ {J : Jx} {F Z Z' : Hp} (x : XR J F Z) (s : ∀ a o, Z a = some o → Z' a = some o) : XR J F Z' := fun F' H' M' c od xs s' m q o => x F' H' M' c od xs s' (m.lessZ s) q o
section
variable {J : Jx} {Γ : Ga} {M : Ms} {wi : TI} {g : TG} {tt : TT} {te : TE} {P : Ent → Ms → Prop} {vs : List Nat}
theorem w_lc (hw : WpOk g vs) (h : WI J wi Γ M fun its G M1 => ∃ Iv : Nat → List PyData → Ms → Prop, its.length ≤ sizeLine ∧ Iv 0 [] M1 ∧ (∀ i ds M', i ≤ its.length → Iv i ds M' → G M') ∧
    (∀ i e ds M', its[i]? = some e → Iv i ds M' → GT J g e (wipeG Γ vs) M' fun Γ2 M2 => WT J tt Γ2 M2 fun b M3 => (b = true → Wx J te Γ2 M3 fun r M4 => ∃ d, r = .d d ∧ Iv (i + 1) (ds ++ [d]) M4) ∧ (b = false → Iv (i + 1) ds M3)) ∧
    (∀ ds M', ds.length ≤ its.length → Iv its.length ds M' → P (.d (.list ds)) M')) : Wx J (tLc wi g tt te vs) Γ M P := fun F Z σ H en m x Q q =>
  h F Z σ H en m x _ fun I F1 H1 M1 its G s1 m1 aw ⟨Iv, hz, h0, hG, hs, hd⟩ => fun Dl hD => by
    have nZ := (m1.zfree hD).1
    have x1 := x.mono s1
    have up : ∀ (o : HO) a u, Z a = some u → upd Z Dl o a = some u := fun o a u e => by
      rw [upd_ne (ne_of_none e nZ)]
      exact e
    refine ⟨fun i n H' => n = its.length - i ∧ i ≤ its.length ∧ ∃ F' ds ws M', Same F1 F' ∧ RpAll J.K F' ws ds ∧ Mem J.K F' M' (upd Z Dl (.lst ws)) H' ∧ ds.length ≤ i ∧ Iv i ds M', ⟨its.length, by simp, Nat.zero_le _, F1, [], [], M1, Same.refl F1, .nil, m1.newZ hD, Nat.le_refl _, h0⟩, ?_⟩
    rintro i n H' ⟨rfl, hi, F', ds, ws, M', s', rs, m', hl, iv⟩
    have g' := hG i ds M' hi iv
    have aw1 := aw (upd Z Dl (.lst ws)) (up _)
    by_cases hlt : i < its.length
    · refine .inr ⟨aw1.goes F' M' H' i s' m' g' hlt, fun H2 => ∃ F' ds ws M', Same F1 F' ∧ RpAll J.K F' ws ds ∧ Mem J.K F' M' (upd Z Dl (.lst ws)) H2 ∧ ds.length ≤ i + 1 ∧ Iv (i + 1) ds M', fun H2 q => ⟨its.length - (i + 1), by omega, rfl, hlt, q⟩, fun v H2 y => ?_⟩
      obtain ⟨F2, e, s2, m2, ei, r2⟩ := aw1.yields F' M' H' i v H2 s' m' g' hlt y
      have xz : XR J F2 (upd Z Dl (.lst ws)) := (x1.mono (s'.trans s2)).moreZ (up _)
      have eq1 : wipe (wipe σ vs) vs = wipe σ vs := wipe_wipe σ vs vs fun _ z => z
      have enw : EnvOk J.K F2 (wipe σ vs) (wipeG Γ vs) := (en.mono ((s1.trans s').trans s2)).wipe vs
      have main := hw v (wipe σ vs) H2 _ (hs i e ds M' ei iv F2 (upd Z Dl (.lst ws)) (wipe σ vs) H2 v enw m2 xz r2 (fun σ2 H2 => tt σ2 H2 fun b H3 => if b = true then te σ2 H3 fun y H4 => ∃ acc, H4 Dl = some (.lst acc) ∧ acc.length < sizeLine ∧
          (fun H2 => ∃ F' ds ws M', Same F1 F' ∧ RpAll J.K F' ws ds ∧ Mem J.K F' M' (upd Z Dl (.lst ws)) H2 ∧ ds.length ≤ i + 1 ∧ Iv (i + 1) ds M') (upd H4 Dl (.lst (acc ++ [y]))) else
          (fun H2 => ∃ F' ds ws M', Same F1 F' ∧ RpAll J.K F' ws ds ∧ Mem J.K F' M' (upd Z Dl (.lst ws)) H2 ∧ ds.length ≤ i + 1 ∧ Iv (i + 1) ds M') H3) fun F3 H3 σ3 Γ3 M3 s3 m3 e3 k => ?_)
      · rw [eq1] at main
        exact main
      · have x3 := xz.mono s3
        refine k F3 _ σ3 H3 e3 m3 x3 _ fun b F4 H4 M4 s4 m4 ⟨kt, kf⟩ => ?_
        have s14 := ((s'.trans s2).trans s3).trans s4
        cases b with
        | true =>
          show te σ3 H4 _
          refine kt rfl F4 _ σ3 H4 (e3.mono s4) m4 (x3.mono s4) _ fun v F5 H5 e5 M5 s5 m5 r5 ⟨d, ed, iv'⟩ => ?_
          subst ed
          have hD5 := (m5.out Dl _ upd_same).1
          refine ⟨ws, hD5, by rw [rs.length]; omega, F5, ds ++ [d], ws ++ [v], M5, s14.trans s5, (rs.mono (((s2.trans s3).trans s4).trans s5)).append (.cons r5 .nil), ?_, by rw [List.length_append, List.length_singleton]; omega, iv'⟩
          have m6 := m5.writeZ (o := .lst (ws ++ [v])) (upd_same (H := Z) (a := Dl) (o := .lst ws))
          rw [upd_upd] at m6
          exact m6
        | false =>
          exact ⟨F4, ds, ws, M4, s14, rs.mono ((s2.trans s3).trans s4), m4, by omega, kf rfl⟩
    · have e : i = its.length := by omega
      subst e
      refine .inl ⟨aw1.stops F' M' H' s' m' g', ?_⟩
      obtain ⟨s2, m2⟩ := m'.giveZ nZ
      exact q _ _ H' (.d (.list ds)) M' ((s1.trans s').trans s2) m2 (Rp.lst upd_same (rs.mono s2)) (hd ds M' hl iv)
theorem wt_yes {B : Bool → Ms → Prop} (p : B true M) : WT J tYes Γ M B := fun F Z σ H en m x Q q => q true F H M (Same.refl F) m p
end
/-! ## stores into a list that may change -/
section
variable {J : Jx} {Γ : Ga} {M : Ms} {P : Ga → Ms → Prop} {to ti : TE} {e : Ent}
theorem paired_setE {K : PySem.W.Frag} {F : Hp} {vs : List V} {es : List Ent} {v : V} {e : Ent} (r : REs K F vs es) (q : RE K F v e) (j : Nat) : REs K F (vs.set j v) (es.set j e) := paired_set (R := RE K F) q j r
theorem g_sub (h : Wx J to Γ M fun o M1 => Wx J ti Γ M1 fun i M2 => ∃ a es k j, o = .r a ∧ i = .d (.int k) ∧ M2 a = some (.lst es) ∧ ixN es.length k = some j ∧ P Γ (um M2 a (.lst (es.set j e)))) : GT J (gSub to ti rSetL) e Γ M P := fun F Z σ H v en m x r Q q =>
  h F Z σ H en m x _ fun o F1 H1 eo M1 s1 m1 r1 h1 => h1 F1 Z σ H1 (en.mono s1) m1 (x.mono s1) _ fun i F2 H2 ei M2 s2 m2 r2 ⟨a, es, k, j, e1, e2, hm, hj, p⟩ => by
    subst e1
    subst e2
    cases r1
    cases r2
    obtain ⟨vs, ea, rs⟩ := m2.list hm
    refine ⟨a, vs, k, j, rfl, rfl, ea, by rw [rs.length]; exact hj, ?_⟩
    exact q F2 _ σ Γ _ (s1.trans s2) (m2.write (o := .lst (vs.set j v)) (m := .lst (es.set j e)) hm (paired_setE rs (r.mono (s1.trans s2)) j)) (en.mono (s1.trans s2)) p
end
end Z
set_option Elab.async false
set_option linter.all false
set_option maxRecDepth 100000
set_option maxHeartbeats 4000000
namespace Z
open PySem PySem.Spec L2
/-! ## calls -/
/-- the values at these places -/
def perm {α : Type} (ix : List Nat) (l : List α) : List α := ix.filterMap (l[·]?)
theorem perm_paired {α β : Type} {R : α → β → Prop} {xs : List α} {ys : List β} (h : Paired R xs ys) : ∀ ix : List Nat, Paired R (perm ix xs) (perm ix ys)
  | [] => .nil
  | i :: ix => by
    unfold perm
    rw [List.filterMap_cons, List.filterMap_cons]
    cases e : ys[i]? with
    | none =>
      have hx : xs[i]? = none := by
        have l := Paired.length h
        rw [List.getElem?_eq_none_iff] at e ⊢
        omega
      rw [hx]
      exact perm_paired h ix
    | some y =>
      obtain ⟨x, e1, r⟩ := paired_get h e
      rw [e1]
      exact .cons r (perm_paired h ix)
theorem kbn0 {K : PySem.W.Frag} {x qual : Str} {params : Arguments} {body : List Stmt} {scope : Scope} {kws : List (Str × V)} {f : Addr} {fd : FuncData} {ps : List Str} (F : FunD K x qual params body scope [] kws f fd) (n : Nat) (ks : List Str) (ix : List Nat)
    (h : ∀ (kV doc pm : Value) (an : Option Addr) (cdv ct : Value) (us ws : List Value), us.length = n → ws.length = ks.length → bindArgs (PySem.W.fnOf x qual params body scope .none kV doc pm an cdv ct) ⟨us, ks.zip ws⟩ = pure (ps.zip (perm ix (us ++ ws)))) :
    KBn K fd ps n ks (fun us ws => perm ix (us ++ ws)) (fun vs zs => perm ix (vs ++ zs)) := by
  obtain ⟨oc, od, dV, kV, doc, pm, an, cdv, ct, osl, rfl, lk, hcd, hD, hK⟩ := F.ex
  rcases hD with ⟨_, rfl⟩ | ⟨e, _⟩
  · exact ⟨fun s us ws _ l1 l2 => .of_eq (h kV doc pm an cdv ct us ws l1 l2), fun r1 r2 => perm_paired (r1.append r2) ix⟩
  · exact absurd rfl e
section
variable {X : Cx} {CX : CXT} {k n : Nat} {f : Addr} {fd : FuncData} {ps ks : List Str} {sp : Sp} {E : XK} {x : Str} {p pos : Pos} {e : Expr} {es : List Expr} {kws : List Keyword} {t tk : TA} {g : List Value → List Value → List Value} {gV : List V → List V → List V}
/-- f(k = v, ..) -/
theorem pe_callN0 (F : FnOk X.prog X.w X.K X.mg X.base CX k f fd ps sp) (hr : Room k X.A) (hg : Gl X x) (hm : X.mg x = some (.ref f)) (hk : PySem.W.keepIn X.K (.ref f) = true) (hb : KBn X.K fd ps 0 ks g gV) (hx : Passes CX X E)
    (hkw : PK X kws tk) (hall : (backToKw pos (keywordEach kws X.env)).all (·.1.isSome) = true := by rfl) (hks : (backToKw pos (keywordEach kws X.env)).filterMap (·.1) = ks := by rfl)
    (hdb : (x == ("__debug__" : Str)) = false := by decide) (hpl : ((backTo pos (starEach [] X.env)).any (·.1) || (backToKw pos (keywordEach kws X.env)).any (·.1.isNone)) = false := by rfl) :
    PE X (.Call (.Name x p) [] kws pos) (tCallN 0 ks.length sp gV E tNil tk) := by
  refine ⟨fun pins s σ H Q I h => ?_⟩
  refine wpAny_Call_Name_kw (ld_glob I hg hm ?_ hdb)
  refine PySem.W.callWith_KW0 (h₀ := X.base) I.ok.mod.kin hk hall ?_ hpl
  refine thn (hkw.run pos pins s σ H _ I h) fun ws s2 ⟨zs, H2, I2, rz, l1, l2, q2⟩ => ⟨I2.kIn, ?_⟩
  rw [hks]
  exact run_fnN (us := []) (vs := []) F hr hb hx I2 .nil rz rfl l2 q2
end
/-- a def of the module by its name -/
structure Ca (P : Program) (w : World) (K : PySem.W.Frag) (mg : Str → Option Value) (base : Heap) (x : Str) (st : Stmt) (k : Nat) (ps : List Str) (c : ASp) : Prop where
  ex : ∃ (f : Addr) (fd : FuncData), FnOk P w K mg base CX0 k f fd ps (spA K c) ∧ mg x = some (.ref f) ∧ FunD K x x (defArgs st) (defBody st) (defScope st) [] [] f fd ∧ Binds K fd ps []
section
variable {X : Cx} {k j : Nat} {ps : List Str} {c : ASp} {x : Str} {st : Stmt} {p pos : Pos} {e : Expr} {es : List Expr} {kws : List Keyword} {t tk : TA}
theorem pe_ca (C : Ca X.prog X.w X.K X.mg X.base x st k ps c) (hr : Room j X.A) (hk : k ≤ j) (hg : Gl X x) (ha : PA X (e :: es) t)
    (hdb : (x == ("__debug__" : Str)) = false := by decide) (he : starEach (e :: es) X.env = (false, eval e X.env) :: starEach es X.env := by rfl) (hpl : (backTo pos (starEach es X.env)).any (·.1) = false := by rfl) :
    PE X (.Call (.Name x p) (e :: es) [] pos) (tCall (spA X.K c) [] E0 t) := by
  obtain ⟨f, fd, F, hm, fu, b⟩ := C.ex
  exact pe_call F (hr.mono hk) hg hm fu.kp b .nil pass0 ha hdb he hpl
theorem pe_ca0 (C : Ca X.prog X.w X.K X.mg X.base x st k ps c) (hr : Room j X.A) (hk : k ≤ j) (hg : Gl X x)
    (hdb : (x == ("__debug__" : Str)) = false := by decide) : PE X (.Call (.Name x p) [] [] pos) (tCall (spA X.K c) [] E0 tNil) := by
  obtain ⟨f, fd, F, hm, fu, b⟩ := C.ex
  exact pe_call0 F (hr.mono hk) hg hm fu.kp b .nil pass0 hdb
/-- with keywords: n places, then ks; ix: where each parameter's value is found -/
theorem pe_caK (C : Ca X.prog X.w X.K X.mg X.base x st k ps c) (n : Nat) (ks : List Str) (ix : List Nat) (hr : Room j X.A) (hk : k ≤ j) (hg : Gl X x)
    (hb : ∀ (kV doc pm : Value) (an : Option Addr) (cdv ct : Value) (us ws : List Value), us.length = n → ws.length = ks.length → bindArgs (PySem.W.fnOf x x (defArgs st) (defBody st) (defScope st) .none kV doc pm an cdv ct) ⟨us, ks.zip ws⟩ = pure (ps.zip (perm ix (us ++ ws))))
    (ha : PA X (e :: es) t) (hkw : PK X kws tk) (hall : (backToKw pos (keywordEach kws X.env)).all (·.1.isSome) = true := by rfl) (hks : (backToKw pos (keywordEach kws X.env)).filterMap (·.1) = ks := by rfl)
    (hdb : (x == ("__debug__" : Str)) = false := by decide) (he : starEach (e :: es) X.env = (false, eval e X.env) :: starEach es X.env := by rfl)
    (hpl : ((backTo pos (starEach (e :: es) X.env)).any (·.1) || (backToKw pos (keywordEach kws X.env)).any (·.1.isNone)) = false := by rfl) :
    PE X (.Call (.Name x p) (e :: es) kws pos) (tCallN n ks.length (spA X.K c) (fun vs zs => perm ix (vs ++ zs)) E0 t tk) := by
  obtain ⟨f, fd, F, hm, fu, b⟩ := C.ex
  exact pe_callN F (hr.mono hk) hg hm fu.kp (kbn0 fu n ks ix hb) pass0 ha hkw hall hks hdb he hpl
theorem pe_caK0 (C : Ca X.prog X.w X.K X.mg X.base x st k ps c) (ks : List Str) (ix : List Nat) (hr : Room j X.A) (hk : k ≤ j) (hg : Gl X x)
    (hb : ∀ (kV doc pm : Value) (an : Option Addr) (cdv ct : Value) (us ws : List Value), us.length = 0 → ws.length = ks.length → bindArgs (PySem.W.fnOf x x (defArgs st) (defBody st) (defScope st) .none kV doc pm an cdv ct) ⟨us, ks.zip ws⟩ = pure (ps.zip (perm ix (us ++ ws))))
    (hkw : PK X kws tk) (hall : (backToKw pos (keywordEach kws X.env)).all (·.1.isSome) = true := by rfl) (hks : (backToKw pos (keywordEach kws X.env)).filterMap (·.1) = ks := by rfl)
    (hdb : (x == ("__debug__" : Str)) = false := by decide) (hpl : ((backTo pos (starEach [] X.env)).any (·.1) || (backToKw pos (keywordEach kws X.env)).any (·.1.isNone)) = false := by rfl) :
    PE X (.Call (.Name x p) [] kws pos) (tCallN 0 ks.length (spA X.K c) (fun vs zs => perm ix (vs ++ zs)) E0 tNil tk) := by
  obtain ⟨f, fd, F, hm, fu, b⟩ := C.ex
  exact pe_callN0 F (hr.mono hk) hg hm fu.kp (kbn0 fu 0 ks ix hb) pass0 hkw hall hks hdb hpl
end
section
variable {J : Jx} {Γ : Ga} {M : Ms} {P : Ent → Ms → Prop} {t tk : TA}
theorem REs.append {K : PySem.W.Frag} {F : Hp} {vs ws : List V} {es fs : List Ent} (h : REs K F vs es) (g : REs K F ws fs) : REs K F (vs ++ ws) (es ++ fs) := paired_append h g
theorem w_callN {c : ASp} {n m : Nat} {ix : List Nat} (h : WA J t Γ M fun es M1 => WA J tk Γ M1 fun zs M2 => es.length = n ∧ zs.length = m ∧ c (perm ix (es ++ zs)) M2 P X0) : Wx J (tCallN n m (spA J.K c) (fun vs zs => perm ix (vs ++ zs)) E0 t tk) Γ M P := fun F Z σ H en mm x Q q =>
  h F Z σ H en mm x _ fun vs F1 H1 es M1 s1 m1 r1 h1 => h1 F1 Z σ H1 (en.mono s1) m1 (x.mono s1) _ fun zs F2 H2 fs M2 s2 m2 r2 ⟨l1, l2, h2⟩ =>
    ⟨r1.length.trans l1, r2.length.trans l2, F2, Z, M2, perm ix (es ++ fs), P, X0, perm_paired ((r1.mono s2).append r2) ix, m2, h2, fun v F' H' e M' s m' r p => q v F' H' e M' ((s1.trans s2).trans s) m' r p, fun _ _ _ _ _ _ _ _ z _ => z.elim⟩
theorem w_call {c : ASp} (h : WA J t Γ M fun es M1 => c es M1 P X0) : Wx J (tCall (spA J.K c) [] E0 t) Γ M P := w_call0 (des := []) (fun _ => .nil) fun F Z σ H en m x Q q => h F Z σ H en m x Q fun vs F' H' es M' s m' r p => q vs F' H' es M' s m' r (by show c (es ++ []) M' P X0; rw [List.append_nil]; exact p)
end
/-! ## what the top has left -/
structure Top (fa : List He.Fa) (fn : List He.DefD) (K : PySem.W.Frag) (mg : Str → Option Value) : Prop where
  ex : ∃ h : Heap, K.In h ∧ h.Ns mainGlobals mg ∧ He.SaysD fa fn K
/-- a def of the module without defaults -/
def dd (x : Str) (st : Stmt) : He.DefD := ⟨(x, none), x, x, defArgs st, defBody st, defScope st, [], []⟩
section
variable {fa : List He.Fa} {fn : List He.DefD} {K : PySem.W.Frag} {mg : Str → Option Value}
theorem Top.fun_ (T : Top fa fn K mg) (i : Nat) {d : He.DefD} (h : fn[i]? = some d) : ∃ fd, FunD K d.name d.qual d.params d.body d.scope (d.dvs K) (d.kws K) (He.fAd K d.at_) fd := by
  obtain ⟨_, _, _, c⟩ := T.ex
  exact c.def_ i h
theorem Top.glo (T : Top fa fn K mg) (i : Nat) {x : Str} (h : fa[i]? = some (.glo x)) : mg x = some (.ref (He.ga K x)) := by
  obtain ⟨_, X, G, c⟩ := T.ex
  exact He.glo_ok X G (c.fact i h)
theorem Top.free (T : Top fa fn K mg) (i : Nat) {x : Str} (h : fa[i]? = some (.free x)) : mg x = none := by
  obtain ⟨_, X, G, c⟩ := T.ex
  exact He.free_ok X G (c.fact i h)
theorem Top.str (T : Top fa fn K mg) (i : Nat) {x z : Str} (h : fa[i]? = some (.str x z)) : ∃ u, mg x = some u ∧ RelV (.str z) u := by
  obtain ⟨_, X, G, c⟩ := T.ex
  obtain ⟨t, e⟩ := He.str_ok X G (c.fact i h)
  exact ⟨_, e, t, rfl⟩
theorem Top.int (T : Top fa fn K mg) (i : Nat) {x : Str} {z : Int} (h : fa[i]? = some (.int x z)) : ∃ u, mg x = some u ∧ RelV (.int z) u := by
  obtain ⟨_, X, G, c⟩ := T.ex
  obtain ⟨t, e⟩ := He.int_ok X G (c.fact i h)
  exact ⟨_, e, t, rfl⟩
variable {P : Program} {w : World} {base : Heap}
theorem ca_of {x : Str} {st : Stmt} {k : Nat} {ps : List Str} {c : ASp} (T : Top fa fn K mg) (i j : Nat) (hi : fn[i]? = some (dd x st)) (hj : fa[j]? = some (.glo x))
    (hb : ∀ (kV doc pm : Value) (an : Option Addr) (cdv ct : Value) (us : List Value), us.length = ps.length → bindArgs (PySem.W.fnOf x x (defArgs st) (defBody st) (defScope st) .none kV doc pm an cdv ct) ⟨us, []⟩ = pure (ps.zip us))
    (ok : ∀ fd, FunD K x x (defArgs st) (defBody st) (defScope st) [] [] (He.ga K x) fd → FnOk P w K mg base CX0 k (He.ga K x) fd ps (spA K c)) : Ca P w K mg base x st k ps c := by
  obtain ⟨fd, F⟩ := T.fun_ i hi
  have F' : FunD K x x (defArgs st) (defBody st) (defScope st) [] [] (He.ga K x) fd := F
  exact ⟨He.ga K x, fd, ok fd F', T.glo j hj, F', F'.bindsN hb⟩
end
/-- the law's call -/
theorem law_in {K : PySem.W.Frag} {H : Hp} {a : Addr} {ns : List Int} {c : ASp} {Q : VK} {E : XK} (hS : SqL K H a (ns.map V.int)) (hQ : ∀ H', Q (.bl true) H')
    (hc : ∀ Qa X, (∀ M', Qa (.d (.bool true)) M') → c [.w (ns.map PyData.int)] (fun _ => none) Qa X) : spA K c [.ref a] H Q E := by
  refine ⟨H, fun _ => none, fun _ => none, [.w (ns.map PyData.int)], fun e M => e = .d (.bool true), X0, .cons ⟨a, _, rfl, hS, RpAll.ofInts ns⟩ .nil, ⟨Same.refl H, fun _ _ z => (nomatch z), fun _ _ z => (nomatch z)⟩, hc _ _ (fun _ => rfl), ?_, fun _ _ _ _ _ _ _ _ z _ => z.elim⟩
  intro v F' H' e M' s m r he
  subst he
  cases r
  exact hQ H'
end Z
set_option Elab.async false
set_option linter.all false
set_option maxRecDepth 100000
set_option maxHeartbeats 4000000
namespace Z
open PySem PySem.Spec L2
section
variable {X : Cx}
def rMulS : R2 := fun x y H Q => ∃ i n, x = .str i ∧ y = .int n ∧ MulOk i n ∧ Q (.str (Txt.mul i n)) H
theorem op_mul_str : OpR X (binaryOp .Mult) rMulS := by
  intro pins s σ H x y v u Q I rx ry h
  obtain ⟨i, n, rfl, rfl, hk, q⟩ := h
  obtain ⟨t, rfl⟩ := rx
  obtain ⟨t2, rfl⟩ := ry
  exact PySem.SB.mul hk fun t' k => ⟨.str _, H, I.tok _, ⟨_, rfl⟩, q⟩
abbrev rMulI : R2 := rI CMul fun i j => .int (i * j)
abbrev rMulU : R2 := rOr rMulI rMulS
theorem op_mulU : OpR X (binaryOp .Mult) rMulU := op_or2 op_mul op_mul_str
abbrev rIsiU (K : PySem.W.Frag) : List V → Hp → VK → Prop := rOrN (rIsi K) (rIsiT K)
theorem call_isiU : CallR X (.builtin "isinstance") (rIsiU X.K) := call_or call_isi call_isiT
end
section
variable {J : Jx} {Γ : Ga} {M : Ms} {P : Ent → Ms → Prop}
theorem o_mulI {i j : Int} (hc : CMul i j) (p : P (.d (.int (i * j))) M) : O2 J rMulU (.d (.int i)) (.d (.int j)) M P := o_l (o_mul hc p)
theorem mul_small {s : Str} {n : Int} (h : s.length ≤ 1000) (h0 : -1000 ≤ n) (h1 : n ≤ 1000) : MulOk s n := by
  have e : (2 : Int) ^ 63 = 9223372036854775808 := by decide
  refine ⟨?_, ?_, ?_⟩
  · rw [Bool.or_eq_false_iff]
    constructor
    · rw [decide_eq_false_iff_not, e]
      omega
    · rw [decide_eq_false_iff_not, e]
      omega
  · intro h2 _
    rw [e]
    have h3 : (1000 : Int) ≤ (9223372036854775808 - 1) / n := Int.le_ediv_of_mul_le (by omega) (by omega)
    omega
  · intro _ _
    have e2 : sizeLine = 16777216 := rfl
    have h4 : s.length * n.toNat ≤ 1000 * 1000 := Nat.mul_le_mul h (by omega)
    show decide (s.length * n.toNat > sizeLine) = false
    rw [decide_eq_false_iff_not, e2]
    omega
theorem o_mulS {s : Str} {n : Int} (hc : MulOk s n) (p : P (.d (.str (Txt.mul s n))) M) : O2 J rMulU (.d (.str s)) (.d (.int n)) M P := o_r fun F Z H v u m xr r1 r2 Q q => by
  cases r1
  cases r2
  exact ⟨s, n, rfl, rfl, hc, q _ F H (.d (.str _)) M (Same.refl F) m (Rp.str _) p⟩
/-! isinstance with built-in types -/
def tyN : PyData → String
  | .none => "NoneType"
  | .bool _ => "bool"
  | .int _ => "int"
  | .str _ => "str"
  | .list _ => "list"
  | .tuple _ => "tuple"
  | .dict _ => "object"
def isB : PyData → String → Bool
  | .bool _, "int" => true
  | d, n => decide (tyN d = n)
theorem tyX_of {K : PySem.W.Frag} {F Z H : Hp} {v : V} {d : PyData} (m : Mem K F M Z H) (r : Rp K F v d) (hd : noObj d = true) : TyX K H v (.type (tyN d)) := by
  cases r with
  | non => exact .base .non
  | bl b => exact .base (.bl b)
  | int b => exact .base (.int b)
  | str b => exact .base (.str b)
  | lst e _ => exact .base (.lst (m.sub _ _ e))
  | tup e _ =>
    rcases e with (e | ⟨o, e⟩) | ⟨o, its, n, e, c, _⟩
    · exact .base (.tup (m.sub _ _ e))
    · exact .fTuple (m.sub _ _ e)
    · exact .kTuple e c
  | obj _ _ => exact absurd hd Bool.false_ne_true
theorem kit_isB {K : PySem.W.Frag} (d : PyData) (hd : noObj d = true) : (PySem.W.kitOne K (.type (tyN d)) (.type "int") = some (isB d "int") ∧ PySem.W.kitOne K (.type (tyN d)) (.type "bool") = some (isB d "bool") ∧ PySem.W.kitOne K (.type (tyN d)) (.type "str") = some (isB d "str") ∧
    PySem.W.kitOne K (.type (tyN d)) (.type "list") = some (isB d "list")) ∧ PySem.W.kitOne K (.type (tyN d)) (.type "tuple") = some (isB d "tuple") := by
  cases d with
  | dict _ => exact absurd hd Bool.false_ne_true
  | none => exact ⟨⟨kit_ty (by decide +kernel), kit_ty (by decide +kernel), kit_ty (by decide +kernel), kit_ty (by decide +kernel)⟩, kit_ty (by decide +kernel)⟩
  | bool _ => exact ⟨⟨kit_ty (a := "bool") (r := true) (by decide +kernel), kit_ty (a := "bool") (r := true) (by decide +kernel), kit_ty (a := "bool") (r := false) (by decide +kernel), kit_ty (a := "bool") (r := false) (by decide +kernel)⟩, kit_ty (a := "bool") (r := false) (by decide +kernel)⟩
  | int _ => exact ⟨⟨kit_ty (a := "int") (r := true) (by decide +kernel), kit_ty (a := "int") (r := false) (by decide +kernel), kit_ty (a := "int") (r := false) (by decide +kernel), kit_ty (a := "int") (r := false) (by decide +kernel)⟩, kit_ty (a := "int") (r := false) (by decide +kernel)⟩
  | str _ => exact ⟨⟨kit_ty (a := "str") (r := false) (by decide +kernel), kit_ty (a := "str") (r := false) (by decide +kernel), kit_ty (a := "str") (r := true) (by decide +kernel), kit_ty (a := "str") (r := false) (by decide +kernel)⟩, kit_ty (a := "str") (r := false) (by decide +kernel)⟩
  | list _ => exact ⟨⟨kit_ty (a := "list") (r := false) (by decide +kernel), kit_ty (a := "list") (r := false) (by decide +kernel), kit_ty (a := "list") (r := false) (by decide +kernel), kit_ty (a := "list") (r := true) (by decide +kernel)⟩, kit_ty (a := "list") (r := false) (by decide +kernel)⟩
  | tuple _ => exact ⟨⟨kit_ty (a := "tuple") (r := false) (by decide +kernel), kit_ty (a := "tuple") (r := false) (by decide +kernel), kit_ty (a := "tuple") (r := false) (by decide +kernel), kit_ty (a := "tuple") (r := false) (by decide +kernel)⟩, kit_ty (a := "tuple") (r := true) (by decide +kernel)⟩
theorem n_isi {d : PyData} {n : String} {b : Bool} (hd : noObj d = true) (hn : n = "int" ∨ n = "bool" ∨ n = "str" ∨ n = "list" ∨ n = "tuple") (he : isB d n = b) (p : P (.d (.bool b)) M) : ON J (rIsiU J.K) [.d d, .t n] M P := n_l fun F Z H vs m xr r1 Q q => by
  cases r1 with
  | cons r0 rt =>
    cases rt with
    | cons r2 rt =>
      cases rt
      cases r2
      have k := kit_isB (K := J.K) d hd
      have kk : PySem.W.kitOne J.K (.type (tyN d)) (.type n) = some (isB d n) := by
        rcases hn with h | h | h | h | h <;> subst h
        · exact k.1.1
        · exact k.1.2.1
        · exact k.1.2.2.1
        · exact k.1.2.2.2
        · exact k.2
      rw [he] at kk
      exact ⟨_, _, _, _, _, rfl, .ty n, tyX_of m r0 hd, kk, q _ F H (.d (.bool _)) M (Same.refl F) m (Rp.bl _) p⟩
end
/-! ## rules with the written part told -/
section
variable {X : Cx} {K : PySem.W.Frag} {a b c e o : Expr} {ta tb tc te to : TE} {es rest : List Expr} {t : TA} {pos apos cpos : Pos} {tg l : Expr}
theorem kAdd (h : X.K = K) : OpR X (binaryOp .Add) (rAddU K) := h ▸ op_addU
theorem kEq (h : X.K = K) (hu : X.A.units + 64 < cLine) : OpR X (compareOp .Eq) (rEqU K) := h ▸ op_eqU hu
theorem kNe (h : X.K = K) (hu : X.A.units + 64 < cLine) : OpR X (compareOp .NotEq) (rNeU K) := h ▸ op_neU hu
theorem kIn (h : X.K = K) : OpR X (compareOp .In) (rInU K) := h ▸ op_inU
theorem kNotIn (h : X.K = K) : OpR X (compareOp .NotIn) (rNotInU K) := h ▸ op_notInU
theorem kIx (h : X.K = K) : IxR X (rIx K) := h ▸ ix_seq
theorem kSl (h : X.K = K) : SlR X (rSlU K) := h ▸ sl_U
theorem kLen (h : X.K = K) : CallR X (.builtin "len") (rLenU K) := h ▸ call_len
theorem kSum (h : X.K = K) (hc : X.calm = true) : CallR X (.builtin "sum") (rSum K) := h ▸ cr_sum hc
theorem kAll (h : X.K = K) (hc : X.calm = true) : CallR X (.builtin "all") (rAll K) := h ▸ cr_all hc
theorem kAny (h : X.K = K) (hc : X.calm = true) : CallR X (.builtin "any") (rAny K) := h ▸ cr_any hc
theorem kList (h : X.K = K) : CallR X (.type "list") (rListU K) := h ▸ call_list_of
theorem kIsi (h : X.K = K) : CallR X (.builtin "isinstance") (rIsiU K) := h ▸ call_isiU
abbrev rJoin (K : PySem.W.Frag) : V → List V → Hp → VK → Prop := fun x xs H Q => ∃ a p, ∃ ys : List Str, x = .str a ∧ xs = [.ref p] ∧ (SqL K H p (ys.map V.str) ∨ SqT K H p (ys.map V.str)) ∧ (ys.map (·.length)).sum + ys.length * a.length ≤ 16777216 ∧ Q (.str (Txt.join a ys)) H
theorem kJoin (h : X.K = K) : MtR X "str.join" (rJoin K) := h ▸ mt_join
theorem ke_and (h : X.K = K) (ha : PE X a ta) (hb : PE X (.BoolOp .And (b :: rest) pos) tb) : PE X (.BoolOp .And (a :: b :: rest) pos) (tAndT K ta tb) := h ▸ pe_andT ha hb
theorem ke_or (h : X.K = K) (ha : PE X a ta) (hb : PE X (.BoolOp .Or (b :: rest) pos) tb) : PE X (.BoolOp .Or (a :: b :: rest) pos) (tOrT K ta tb) := h ▸ pe_orT ha hb
theorem ke_not (h : X.K = K) (ha : PE X a ta) : PE X (.UnaryOp .Not a pos) (tNotT K ta) := h ▸ pe_notT ha
theorem kt_tru (h : X.K = K) (ha : PE X a ta) (he : ∀ whole, isTrue a X.env whole = (do let v ← whole; standAt a.pos; holding [v] (truthy v))) : PT X a (tTru K ta) := h ▸ pt_truth ha he
variable {k j : Nat} {ps : List Str} {c : ASp} {x : Str} {st : Stmt} {p : Pos} {kws : List Keyword} {tk : TA}
theorem ke_ca (h : X.K = K) (C : Ca X.prog X.w K X.mg X.base x st k ps c) (hr : Room j X.A) (hk : k ≤ j) (hg : Gl X x) (ha : PA X (e :: es) t)
    (hdb : (x == ("__debug__" : Str)) = false := by decide) (he : starEach (e :: es) X.env = (false, eval e X.env) :: starEach es X.env := by rfl) (hpl : (backTo pos (starEach es X.env)).any (·.1) = false := by rfl) :
    PE X (.Call (.Name x p) (e :: es) [] pos) (tCall (spA K c) [] E0 t) := by
  subst h
  exact pe_ca C hr hk hg ha hdb he hpl
theorem ke_ca0 (h : X.K = K) (C : Ca X.prog X.w K X.mg X.base x st k ps c) (hr : Room j X.A) (hk : k ≤ j) (hg : Gl X x)
    (hdb : (x == ("__debug__" : Str)) = false := by decide) : PE X (.Call (.Name x p) [] [] pos) (tCall (spA K c) [] E0 tNil) := by
  subst h
  exact pe_ca0 C hr hk hg hdb
theorem ke_caK (h : X.K = K) (C : Ca X.prog X.w K X.mg X.base x st k ps c) (n : Nat) (ks : List Str) (ix : List Nat) (hr : Room j X.A) (hk : k ≤ j) (hg : Gl X x)
    (hb : ∀ (kV doc pm : Value) (an : Option Addr) (cdv ct : Value) (us ws : List Value), us.length = n → ws.length = ks.length → bindArgs (PySem.W.fnOf x x (defArgs st) (defBody st) (defScope st) .none kV doc pm an cdv ct) ⟨us, ks.zip ws⟩ = pure (ps.zip (perm ix (us ++ ws))))
    (ha : PA X (e :: es) t) (hkw : PK X kws tk) (hall : (backToKw pos (keywordEach kws X.env)).all (·.1.isSome) = true := by rfl) (hks : (backToKw pos (keywordEach kws X.env)).filterMap (·.1) = ks := by rfl)
    (hdb : (x == ("__debug__" : Str)) = false := by decide) (he : starEach (e :: es) X.env = (false, eval e X.env) :: starEach es X.env := by rfl)
    (hpl : ((backTo pos (starEach (e :: es) X.env)).any (·.1) || (backToKw pos (keywordEach kws X.env)).any (·.1.isNone)) = false := by rfl) :
    PE X (.Call (.Name x p) (e :: es) kws pos) (tCallN n ks.length (spA K c) (fun vs zs => perm ix (vs ++ zs)) E0 t tk) := by
  subst h
  exact pe_caK C n ks ix hr hk hg hb ha hkw hall hks hdb he hpl
theorem ke_caK0 (h : X.K = K) (C : Ca X.prog X.w K X.mg X.base x st k ps c) (ks : List Str) (ix : List Nat) (hr : Room j X.A) (hk : k ≤ j) (hg : Gl X x)
    (hb : ∀ (kV doc pm : Value) (an : Option Addr) (cdv ct : Value) (us ws : List Value), us.length = 0 → ws.length = ks.length → bindArgs (PySem.W.fnOf x x (defArgs st) (defBody st) (defScope st) .none kV doc pm an cdv ct) ⟨us, ks.zip ws⟩ = pure (ps.zip (perm ix (us ++ ws))))
    (hkw : PK X kws tk) (hall : (backToKw pos (keywordEach kws X.env)).all (·.1.isSome) = true := by rfl) (hks : (backToKw pos (keywordEach kws X.env)).filterMap (·.1) = ks := by rfl)
    (hdb : (x == ("__debug__" : Str)) = false := by decide) (hpl : ((backTo pos (starEach [] X.env)).any (·.1) || (backToKw pos (keywordEach kws X.env)).any (·.1.isNone)) = false := by rfl) :
    PE X (.Call (.Name x p) [] kws pos) (tCallN 0 ks.length (spA K c) (fun vs zs => perm ix (vs ++ zs)) E0 tNil tk) := by
  subst h
  exact pe_caK0 C ks ix hr hk hg hb hkw hall hks hdb hpl
theorem ki_list (h : X.K = K) (hl : PE X l ta) : PI X tg l (iList K ta) := h ▸ pi_list hl
theorem ki_tup (h : X.K = K) (hl : PE X l ta) : PI X tg l (iTup K ta) := h ▸ pi_tup hl
end
/-! ## the law's def -/
theorem law_binds {K : PySem.W.Frag} {x : Str} {st : Stmt} {f : Addr} {fd : FuncData} {p : Str} (F : FunD K x x (defArgs st) (defBody st) (defScope st) [] [] f fd)
    (hb : ∀ (kV doc pm : Value) (an : Option Addr) (cdv ct : Value) (us : List Value), us.length = [p].length → bindArgs (PySem.W.fnOf x x (defArgs st) (defBody st) (defScope st) .none kV doc pm an cdv ct) ⟨us, []⟩ = pure ([p].zip us)) (s : Shared) (v : Value) : BindsTo s fd ⟨[v], []⟩ [(p, v)] :=
  F.bindsA hb s [v] rfl
theorem funD_eq {K : PySem.W.Frag} {x y qual qual' : Str} {pa pa' : Arguments} {b b' : List Stmt} {sc sc' : Scope} {d d' : List V} {k k' : List (Str × V)} {f : Addr} {fd fd' : FuncData} (F : FunD K x qual pa b sc d k f fd) (F' : FunD K y qual' pa' b' sc' d' k' f fd') : fd = fd' := by
  obtain ⟨oc, od, dV, kV, doc, pm, an, cdv, ct, osl, _, lk, _⟩ := F.ex
  obtain ⟨oc', od', dV', kV', doc', pm', an', cdv', ct', osl', _, lk', _⟩ := F'.ex
  rw [lk] at lk'
  have e := Option.some.inj lk'
  injection e with _ _ e3 _
  injection e3
theorem law_fn {P : Program} {w : World} {K : PySem.W.Frag} {mg : Str → Option Value} {h : Heap} {fa : Addr} {fl : List He.Fa} {fn : List He.DefD} {st : Stmt} {k : Nat} {x : Str} {c : ASp} (KX : K.In h) (G : h.Ns mainGlobals mg) (hmg : mg ("law" : Str) = some (.ref fa)) (T : ∃ h : Heap, K.In h ∧ h.Ns mainGlobals mg ∧ He.SaysD fl fn K)
    (hc : ∀ base : Heap, Top fl fn K mg → Ca P w K mg base "law" st k [x] c) (hb : ∀ (s : Shared) (v : Value) (fd : FuncData), FunD K "law" "law" (defArgs st) (defBody st) (defScope st) [] [] fa fd → BindsTo s fd ⟨[v], []⟩ [(x, v)]) :
    ∃ fd : FuncData, (∀ (s : Shared) (u : Value), BindsTo s fd ⟨[u], []⟩ [(x, u)]) ∧ ∀ base : Heap, K.In base → base.Ns mainGlobals mg → FnOk P w K mg base CX0 k fa fd [x] (spA K c) := by
  obtain ⟨f, fd, F, hm, fu, b⟩ := (hc h ⟨T⟩).ex
  rw [hmg] at hm
  cases hm
  refine ⟨fd, fun s v => hb s v fd fu, fun base _ _ => ?_⟩
  obtain ⟨f', fd', F', hm', fu', b'⟩ := (hc base ⟨T⟩).ex
  rw [hmg] at hm'
  cases hm'
  rw [funD_eq fu fu']
  exact F'
theorem cx_K {CX : CXT} {P : Program} {w : World} {K : PySem.W.Frag} {mg : Str → Option Value} {base : Heap} {N : List Str} {qual : Str} {scope : Scope} {f : Addr} {cd : Value} {A : Around} {outer : List Env} {s : Shared} {H : Hp} {E : XK} :
    (cxOf CX P w K mg base N qual scope f cd A outer s H E).nox.K = K := rfl
theorem cx_Kx {CX : CXT} {P : Program} {w : World} {K : PySem.W.Frag} {mg : Str → Option Value} {base : Heap} {N : List Str} {qual : Str} {scope : Scope} {f : Addr} {cd : Value} {A : Around} {outer : List Env} {s : Shared} {H : Hp} {E : XK} :
    (cxOf CX P w K mg base N qual scope f cd A outer s H E).K = K := rfl
/-! ## truth of known kinds -/
section
variable {M : Ms} {R : Bool → Prop}
theorem tr_b {b : Bool} (h : R b) : ∃ k, Tru M (.d (.bool b)) k ∧ R k := ⟨b, rfl, h⟩
theorem tr_i {i : Int} (h : R (i != 0)) : ∃ k, Tru M (.d (.int i)) k ∧ R k := ⟨_, rfl, h⟩
theorem tr_n (h : R false) : ∃ k, Tru M (.d .none) k ∧ R k := ⟨_, rfl, h⟩
theorem tr_s {s : Str} (hl : s.length ≤ sizeLine) (h : R ((s.length : Int) != 0)) : ∃ k, Tru M (.d (.str s)) k ∧ R k := ⟨_, ⟨hl, rfl⟩, h⟩
theorem tr_l {xs : List PyData} (h : R (!xs.isEmpty)) : ∃ k, Tru M (.d (.list xs)) k ∧ R k := ⟨_, rfl, h⟩
theorem tr_t {xs : List PyData} (h : R (!xs.isEmpty)) : ∃ k, Tru M (.d (.tuple xs)) k ∧ R k := ⟨_, rfl, h⟩
theorem tr_w {xs : List PyData} (h : R (!xs.isEmpty)) : ∃ k, Tru M (.w xs) k ∧ R k := ⟨_, rfl, h⟩
theorem tr_r {a : Addr} {xs : List Ent} (hm : M a = some (.lst xs)) (h : R (!xs.isEmpty)) : ∃ k, Tru M (.r a) k ∧ R k := ⟨_, ⟨xs, hm, rfl⟩, h⟩
end
theorem nd_rt {n : Ga → Ms → Prop} {r : Ent → Ms → Prop} {b c : Ga → Ms → Prop} {e : Ent} {M : Ms} (h : r e M) : (Nd.mk n r b c).rt e M := h
theorem nd_nx {n : Ga → Ms → Prop} {r : Ent → Ms → Prop} {b c : Ga → Ms → Prop} {Γ : Ga} {M : Ms} (h : n Γ M) : (Nd.mk n r b c).nx Γ M := h
theorem ex_ds {es : List Ent} {R : List PyData → Prop} (ds : List PyData) (h : es = ds.map Ent.d) (r : R ds) : ∃ ds, es = ds.map Ent.d ∧ R ds := ⟨ds, h, r⟩
def dsOf : List Ent → Option (List PyData)
  | [] => some []
  | .d x :: r => match dsOf r with
    | some l => some (x :: l)
    | none => none
  | _ => none
theorem dsOf_ok : ∀ {es : List Ent} {ds : List PyData}, dsOf es = some ds → es = ds.map Ent.d
  | [], ds, h => by
    cases h
    rfl
  | .d x :: r, ds, h => by
    have h' : (match dsOf r with
      | some l => some (x :: l)
      | none => none) = some ds := h
    cases e : dsOf r with
    | none =>
      rw [e] at h'
      cases h'
    | some z =>
      rw [e] at h'
      cases h'
      rw [dsOf_ok e]
      rfl
  | .r _ :: _, _, h => by cases h
  | .w _ :: _, _, h => by cases h
  | .t _ :: _, _, h => by cases h
/-- the items of a display -/
theorem ex_disp {es : List Ent} {ds : List PyData} {R : List PyData → Prop} (h : dsOf es = some ds) (hl : Nat.ble ds.length 1000 = true) (r : R ds) : ∃ ds, es = ds.map Ent.d ∧ ds.length ≤ sizeLine ∧ R ds :=
  ⟨ds, dsOf_ok h, Nat.le_trans (Nat.le_of_ble_eq_true hl) (by decide), r⟩
theorem ex_sub {a : Addr} {k : Int} {es : List Ent} {j : Nat} {e : Ent} {M : Ms} {R : Ms → Prop} (hm : M a = some (.lst es)) (hj : ixN es.length k = some j) (h : R (um M a (.lst (es.set j e)))) :
    ∃ a' es' k' j', Ent.r a = .r a' ∧ Ent.d (.int k) = .d (.int k') ∧ M a' = some (.lst es') ∧ ixN es'.length k' = some j' ∧ R (um M a' (.lst (es'.set j' e))) := ⟨a, es, k, j, rfl, rfl, hm, hj, h⟩
theorem ex_kw {es zs args : List Ent} {n m : Nat} {ix : List Nat} {c : ASp} {M : Ms} {P : Ent → Ms → Prop} {X : Xa} (h1 : es.length = n) (h2 : zs.length = m) (h3 : perm ix (es ++ zs) = args) (h : c args M P X) :
    es.length = n ∧ zs.length = m ∧ c (perm ix (es ++ zs)) M P X := ⟨h1, h2, by rw [h3]; exact h⟩
theorem ex_s {s : Str} {A : Prop} (h : A) : (∃ t, Ent.d (.str s) = .d (.str t)) ∧ A := ⟨⟨s, rfl⟩, h⟩
theorem ty_s {s : Str} {M : Ms} {A : Prop} (h : A) : TyM M "str" (.d (.str s)) ∧ A := ⟨rfl, h⟩
theorem ty_l {xs : List PyData} {M : Ms} {A : Prop} (h : A) : TyM M "list" (.d (.list xs)) ∧ A := ⟨rfl, h⟩
theorem ty_r {a : Addr} {es : List Ent} {M : Ms} {A : Prop} (hm : M a = some (.lst es)) (h : A) : TyM M "list" (.r a) ∧ A := ⟨⟨rfl, es, hm⟩, h⟩
theorem ex_lm {es : List Ent} {M : Ms} {R : Addr → Prop} (h : Nat.ble es.length 1000 = true) (k : ∀ a, M a = none → R a) : es.length ≤ sizeLine ∧ ∀ a, M a = none → R a := ⟨Nat.le_trans (Nat.le_of_ble_eq_true h) (by decide), k⟩
theorem ex_rg1 {j : Int} {R : Int → Prop} (h0 : -1000000 ≤ j) (h1 : j ≤ 1000000) (h : R j) : ∃ j', [Ent.d (.int j)] = [.d (.int j')] ∧ -(2 ^ 62) ≤ j' ∧ j' < 2 ^ 62 ∧ R j' := by
  have e : (2 : Int) ^ 62 = 4611686018427387904 := by decide
  exact ⟨j, rfl, by omega, by omega, h⟩
/-- a list that was made here is handed back and stops changing -/
theorem s_ret_fz {J : Jx} {Γ : Ga} {M M0 : Ms} {D : Nd} {i : Nat} {a : Addr} {ds : List PyData} (h : Γ[i]? = some (some (.r a))) (hm : M a = some (.lst (ds.map Ent.d))) (h0 : M0 a = none) (s : SameM M0 M) (p : D.rt (.d (.list ds)) M0) : Sx J (tRet (tVar i)) D Γ M := fun F Z σ H C en m x d => by
  obtain ⟨o, e1, v, e2, r⟩ := paired_get en h
  subst e2
  have ev : v = .ref a := r
  subst ev
  obtain ⟨vs, ea, rs⟩ := m.list hm
  obtain ⟨s2, m2⟩ := m.freeze hm ea
  refine ⟨_, e1, d.rt _ M0 H _ (.d (.list ds)) s2 (m2.weak fun b n hb => ?_) (Rp.lst upd_same ((rpAll_of rs).mono s2)) p⟩
  have nb : b ≠ a := fun q => by
    rw [q, h0] at hb
    cases hb
  unfold dl
  rw [if_neg nb]
  exact s b n hb
theorem um_swap {M : Ms} {a p : Addr} {x y b : Mo} (h : a ≠ p) : um (um (um M a x) p b) a y = um (um M a y) p b := by
  rw [um_comm (Ne.symm h), um_um]
theorem sameM_um {M : Ms} {a : Addr} {m : Mo} (h : M a = none) : SameM M (um M a m) := (SameM.refl M).um h
/-! ## comprehensions that change nothing -/
theorem w_lcf {J : Jx} {Γ : Ga} {M : Ms} {wi : TI} {g : TG} {tt : TT} {te : TE} {P : Ent → Ms → Prop} {vs : List Nat} {α : Type} (xs : List α) (e : α → Ent) (p : α → Bool) (f : α → PyData) (hw : WpOk g vs)
    (h : WI J wi Γ M fun its G M1 => its = xs.map e ∧ M1 = M ∧ xs.length ≤ sizeLine ∧ G M ∧
      (∀ x, x ∈ xs → GT J g (e x) (wipeG Γ vs) M fun Γ2 M2 => M2 = M ∧ (∀ B : Bool → Ms → Prop, B (p x) M → WT J tt Γ2 M B) ∧ (p x = true → ∀ R : Ent → Ms → Prop, R (.d (f x)) M → Wx J te Γ2 M R)) ∧
      P (.d (.list ((xs.filter p).map f))) M) : Wx J (tLc wi g tt te vs) Γ M P := by
  refine w_lc hw ?_
  intro F Z σ H en m x R q
  refine h F Z σ H en m x R fun I F' H' M' its G s m' aw hh => ?_
  obtain ⟨e1, e2, hl, hG, hs, hp⟩ := hh
  subst e1
  subst e2
  refine q I F' H' _ _ G s m' aw ⟨fun i ds M2 => M2 = M' ∧ ds = ((xs.take i).filter p).map f, by rw [List.length_map]; exact hl, ⟨rfl, rfl⟩, fun i ds M2 _ ⟨z, _⟩ => by rw [z]; exact hG, ?_, ?_⟩
  · rintro i ee ds M2 hi ⟨rfl, rfl⟩
    rw [List.getElem?_map] at hi
    cases ex : xs[i]? with
    | none =>
      rw [ex] at hi
      cases hi
    | some x =>
      rw [ex] at hi
      have he : ee = e x := (Option.some.inj hi).symm
      subst he
      have tk : xs.take (i + 1) = xs.take i ++ [x] := by rw [List.take_add_one, ex]; rfl
      intro F2 Z2 σ2 H2 v en2 mm2 x2 r2 Q2 q2
      refine hs x (List.mem_of_getElem? ex) F2 Z2 σ2 H2 v en2 mm2 x2 r2 Q2 fun F3 H3 σ3 Γ3 M3 s3 m3 en3 hh => ?_
      obtain ⟨rfl, ht, he⟩ := hh
      refine q2 F3 H3 σ3 Γ3 _ s3 m3 en3 (ht _ ⟨fun hb => ?_, fun hb => ?_⟩)
      · exact he hb _ ⟨_, rfl, rfl, by rw [tk, List.filter_append, List.map_append, List.filter_cons, if_pos hb]; rfl⟩
      · exact ⟨rfl, by rw [tk, List.filter_append, List.map_append, List.filter_cons, if_neg (by rw [hb]; decide)]; simp⟩
  · rintro ds M2 _ ⟨rfl, rfl⟩
    rw [List.length_map, List.take_length]
    exact hp
/-! ## ends -/
theorem q_of {Q : Ent → Ms → Prop} {e e' : Ent} {M M' : Ms} (k : Q e M) (he : e' = e) (hm : M' = M) : Q e' M' := by
  rw [he, hm]
  exact k
end Z
set_option Elab.async false
set_option linter.all false
set_option maxRecDepth 100000
set_option maxHeartbeats 4000000
namespace Z
open PySem PySem.Spec L2
/-! ## texts as lists of codes -/
abbrev cs (s : Str) : List Nat := s.cps.toList
theorem len_cs (s : Str) : s.length = (cs s).length := by simp [Str.length]
theorem cs_inj {s t : Str} (h : cs s = cs t) : s = t := TL.ext_tl h
theorem cs_app (s t : Str) : cs (s ++ t) = cs s ++ cs t := TL.tl_append s t
theorem len_app (s t : Str) : (s ++ t).length = s.length + t.length := by rw [len_cs, cs_app, List.length_append, ← len_cs, ← len_cs]
theorem cs_one (c : Nat) : cs ⟨#[c]⟩ = [c] := rfl
theorem prefix_take : ∀ b a : List Nat, (decide (b.length ≤ a.length) && (a.take b.length == b)) = b.isPrefixOf a
  | [], a => by simp
  | c :: b, [] => by simp
  | c :: b, d :: a => by
    have e := prefix_take b a
    show (decide (b.length + 1 ≤ a.length + 1) && (d :: a.take b.length == c :: b)) = ((c == d) && b.isPrefixOf a)
    rw [← e]
    by_cases h : c = d
    · subst h
      simp [Nat.succ_le_succ_iff]
    · have h1 : (c == d) = false := beq_false_of_ne h
      have h2 : (d == c) = false := beq_false_of_ne fun q => h q.symm
      simp [h1, h2]
theorem startswith_cs (x y : Str) : Txt.startswith x y = (cs y).isPrefixOf (cs x) := by
  rw [← prefix_take]
  show (decide (0 + y.length ≤ x.length) && Builtin.Str.subAt x y 0) = _
  rw [PySem.StrLaws.subAt_eq, List.drop_zero, Nat.zero_add]
  simp only [len_cs]
theorem starts1 (x : Str) (c : Nat) : Txt.startswith x ⟨#[c]⟩ = decide ((cs x).head? = some c) := by
  rw [startswith_cs, cs_one]
  cases h : cs x with
  | nil => rfl
  | cons d a =>
    by_cases e : c = d
    · subst e
      simp
    · have e' : ¬ d = c := fun q => e q.symm
      show ((c == d) && true) = decide (some d = some c)
      simp [e, e']
theorem cut_to (s : Str) (k : Nat) : cs (cutS s none (some (k : Int))) = (cs s).take k := by
  show (((cs s).drop (HT.sIx s.length 0 none)).take (HT.sIx s.length s.length (some (k : Int)) - HT.sIx s.length 0 none)) = _
  rw [HT.sIx_nat]
  show ((cs s).drop 0).take (min k s.length - 0) = _
  rw [List.drop_zero, Nat.sub_zero, len_cs]
  by_cases h : k ≤ (cs s).length
  · rw [Nat.min_eq_left h]
  · rw [Nat.min_eq_right (by omega), List.take_of_length_le (Nat.le_refl _), List.take_of_length_le (by omega)]
theorem cut_from (s : Str) (k : Nat) : cs (cutS s (some (k : Int)) none) = (cs s).drop k := by
  show (((cs s).drop (HT.sIx s.length 0 (some (k : Int)))).take (s.length - HT.sIx s.length 0 (some (k : Int)))) = _
  rw [HT.sIx_nat, len_cs]
  by_cases h : k ≤ (cs s).length
  · rw [Nat.min_eq_left h, List.take_of_length_le (by simp)]
  · rw [Nat.min_eq_right (by omega), List.drop_of_length_le (Nat.le_refl _), List.drop_of_length_le (by omega)]
    simp
theorem cut_len (s : Str) (a b : Option Int) : (cutS s a b).length ≤ s.length := by
  rw [len_cs, len_cs]
  show (((cs s).drop _).take _).length ≤ _
  rw [List.length_take, List.length_drop]
  omega
theorem join_cs (sep : Str) (ys : List Str) : cs (Txt.join sep ys) = TL.joinL (cs sep) (ys.map cs) := by
  rw [TL.join_eq]
  exact TL.tl_join sep ys
theorem join0 : ∀ parts : List (List Nat), TL.joinL [] parts = parts.flatten
  | [] => rfl
  | [a] => by simp [TL.joinL]
  | a :: b :: r => by
    have e := join0 (b :: r)
    show a ++ ([] ++ TL.joinL [] (b :: r)) = a ++ (b :: r).flatten
    rw [e]
    rfl
/-- "".join of texts of one sign each -/
theorem join_len1 {sep : Str} (hs : cs sep = []) : ∀ ys : List Str, (∀ y ∈ ys, y.length = 1) → (Txt.join sep ys).length = ys.length := by
  intro ys h
  rw [len_cs, join_cs, hs, join0]
  induction ys with
  | nil => rfl
  | cons y r ih =>
    have h1 := h y (List.mem_cons_self ..)
    rw [len_cs] at h1
    rw [List.map_cons, List.flatten_cons, List.length_append, h1, ih fun z hz => h z (List.mem_cons_of_mem _ hz), List.length_cons]
    omega
theorem join_len_le (sep : Str) : ∀ (ys : List Str) (B : Nat), (∀ y ∈ ys, y.length ≤ B) → (Txt.join sep ys).length ≤ ys.length * (B + sep.length) := by
  intro ys B h
  rw [len_cs, join_cs, len_cs sep]
  generalize cs sep = p
  induction ys with
  | nil => simp [TL.joinL]
  | cons y r ih =>
    have h1 := h y (List.mem_cons_self ..)
    rw [len_cs] at h1
    have ih' := ih fun z hz => h z (List.mem_cons_of_mem _ hz)
    have e : (r.length + 1) * (B + p.length) = r.length * (B + p.length) + (B + p.length) := Nat.succ_mul _ _
    cases r with
    | nil =>
      simp only [List.map_cons, List.map_nil, TL.joinL, List.length_cons, List.length_nil] at *
      omega
    | cons z r =>
      simp only [List.map_cons, TL.joinL, List.length_append, List.length_cons] at *
      omega
theorem mul_len (s : Str) (n : Int) : (Txt.mul s n).length ≤ s.length * n.toNat := by
  unfold Txt.mul
  split
  · exact Nat.zero_le _
  · split
    · rename_i h1 h2
      rw [Bool.or_eq_true, beq_iff_eq, beq_iff_eq] at h2
      rcases h2 with h2 | h2
      · subst h2
        simp
      · rw [h2]
        exact Nat.zero_le _
    · rw [len_cs, len_cs]
      generalize n.toNat = k
      have aux : ∀ (k : Nat) (acc : Array Nat), ((List.replicate k s.cps).foldl (· ++ ·) acc).toList.length = acc.toList.length + (cs s).length * k := by
        intro k
        induction k with
        | zero => intro acc; simp
        | succ k ih =>
          intro acc
          rw [List.replicate_succ, List.foldl_cons, ih, Array.toList_append, List.length_append, Nat.mul_succ]
          show acc.toList.length + (cs s).length + (cs s).length * k = _
          omega
      rw [show cs ⟨(List.replicate k s.cps).foldl (· ++ ·) #[]⟩ = ((List.replicate k s.cps).foldl (· ++ ·) #[]).toList from rfl, aux]
      simp
theorem sum_ones : ∀ ys : List Str, (∀ y ∈ ys, y.length = 1) → (ys.map (·.length)).sum = ys.length
  | [], _ => rfl
  | y :: r, h => by
    rw [List.map_cons, List.sum_cons, h y (List.mem_cons_self ..), sum_ones r fun z hz => h z (List.mem_cons_of_mem _ hz), List.length_cons]
    omega
theorem sum_le (B : Nat) : ∀ ys : List Str, (∀ y ∈ ys, y.length ≤ B) → (ys.map (·.length)).sum ≤ ys.length * B
  | [], _ => Nat.zero_le _
  | y :: r, h => by
    have h1 := h y (List.mem_cons_self ..)
    have h2 := sum_le B r fun z hz => h z (List.mem_cons_of_mem _ hz)
    rw [List.map_cons, List.sum_cons, List.length_cons, Nat.succ_mul]
    omega
/-! ## lists of data as typed lists -/
def intsOf : List PyData → Option (List Int)
  | [] => some []
  | .int i :: r => match intsOf r with
    | some l => some (i :: l)
    | none => none
  | _ => none
theorem intsOf_ok : ∀ {ds : List PyData} {l : List Int}, intsOf ds = some l → ds = l.map PyData.int
  | [], l, h => by cases h; rfl
  | .int i :: r, l, h => by
    have h' : (match intsOf r with
      | some l => some (i :: l)
      | none => none) = some l := h
    cases e : intsOf r with
    | none => rw [e] at h'; cases h'
    | some z => rw [e] at h'; cases h'; rw [intsOf_ok e]; rfl
  | .none :: _, _, h => by cases h
  | .bool _ :: _, _, h => by cases h
  | .str _ :: _, _, h => by cases h
  | .list _ :: _, _, h => by cases h
  | .tuple _ :: _, _, h => by cases h
  | .dict _ :: _, _, h => by cases h
def strsOf : List PyData → Option (List Str)
  | [] => some []
  | .str i :: r => match strsOf r with
    | some l => some (i :: l)
    | none => none
  | _ => none
theorem strsOf_ok : ∀ {ds : List PyData} {l : List Str}, strsOf ds = some l → ds = l.map PyData.str
  | [], l, h => by cases h; rfl
  | .str i :: r, l, h => by
    have h' : (match strsOf r with
      | some l => some (i :: l)
      | none => none) = some l := h
    cases e : strsOf r with
    | none => rw [e] at h'; cases h'
    | some z => rw [e] at h'; cases h'; rw [strsOf_ok e]; rfl
  | .none :: _, _, h => by cases h
  | .bool _ :: _, _, h => by cases h
  | .int _ :: _, _, h => by cases h
  | .list _ :: _, _, h => by cases h
  | .tuple _ :: _, _, h => by cases h
  | .dict _ :: _, _, h => by cases h
theorem eqv_strs : ∀ xs ys : List Str, PyData.eqvAll (xs.map PyData.str) (ys.map PyData.str) = decide (xs = ys)
  | [], [] => rfl
  | [], _ :: _ => rfl
  | _ :: _, [] => rfl
  | x :: xs, y :: ys => by
    show (PyData.eqv (.str x) (.str y) && PyData.eqvAll (xs.map PyData.str) (ys.map PyData.str)) = _
    rw [eqv_strs xs ys]
    show ((x == y) && decide (xs = ys)) = _
    by_cases h : x = y
    · subst h
      simp
    · simp [h]
theorem noObj_strs : ∀ xs : List Str, noObjs (xs.map PyData.str) = true
  | [] => rfl
  | _ :: xs => by
    show (true && noObjs (xs.map PyData.str)) = true
    rw [noObj_strs xs]
    rfl
def okS (s : Str) : Bool := (cs s).all fun c => decide (c < 1114112)
theorem strOk_iff {s : Str} (h : okS s = true) : PyData.strOk s = true := by
  unfold PyData.strOk
  rw [← Array.all_toList]
  exact h
theorem lay_strs : ∀ xs : List Str, (∀ x ∈ xs, okS x = true) → PyData.canLayAll0 (xs.map PyData.str) = true ∧ PyData.depthAll (xs.map PyData.str) = 0
  | [], _ => ⟨rfl, rfl⟩
  | x :: xs, h => by
    obtain ⟨h1, h2⟩ := lay_strs xs fun z hz => h z (List.mem_cons_of_mem _ hz)
    refine ⟨?_, ?_⟩
    · show (PyData.strOk x && PyData.canLayAll0 (xs.map PyData.str)) = true
      rw [h1, Bool.and_true]
      exact strOk_iff (h x (List.mem_cons_self ..))
    · show max (PyData.depth (.str x)) (PyData.depthAll (xs.map PyData.str)) = 0
      rw [h2]
      rfl
theorem shaped_strs (xs : List Str) (h : ∀ x ∈ xs, okS x = true) : SeqAt.shaped (.list (xs.map PyData.str)) = true := by
  obtain ⟨h1, h2⟩ := lay_strs xs h
  show (PyData.canLayAll0 (xs.map PyData.str) && decide (PyData.depthAll (xs.map PyData.str) + 1 ≤ 64)) = true
  rw [h1, h2]
  rfl
theorem strip_mem {x y : Str} {c : Nat} (h : c ∈ cs (Txt.stripChars x y)) : c ∈ cs x := by
  unfold Txt.stripChars Txt.stripBy at h
  split at h
  · exact h
  · have h2 : c ∈ (x.cps.extract (stripLo y.cps.contains true x) (stripHi y.cps.contains true x (stripLo y.cps.contains true x))).toList := h
    rw [Array.toList_extract] at h2
    rw [List.extract_eq_take_drop] at h2
    exact List.mem_of_mem_drop (List.mem_of_mem_take h2)
theorem strip_len (x y : Str) : (Txt.stripChars x y).length ≤ x.length := by
  unfold Txt.stripChars Txt.stripBy
  split
  · exact Nat.le_refl _
  · rw [len_cs, len_cs x]
    show ((x.cps.extract _ _).toList).length ≤ _
    rw [Array.toList_extract, List.extract_eq_take_drop, List.length_take, List.length_drop]
    show _ ≤ x.cps.toList.length
    omega
theorem spl1_cons (s c : Nat) (acc r : List Nat) : TL.spl [s] 0 acc (c :: r) = if c = s then acc :: TL.spl [s] 0 [] r else TL.spl [s] 0 (acc ++ [c]) r := by
  by_cases h : c = s
  · subst h
    rw [if_pos rfl]
    exact TL.spl_hit (by simp [TL.pre])
  · rw [if_neg h]
    exact TL.spl_miss (by simp [TL.pre, h])
theorem spl1_nil (s : Nat) (acc : List Nat) : TL.spl [s] 0 acc [] = [acc] := TL.spl_nil _ _ _
theorem spl1_mem {s : Nat} : ∀ {r acc p : List Nat} {c : Nat}, p ∈ TL.spl [s] 0 acc r → c ∈ p → c ∈ acc ∨ c ∈ r
  | [], acc, p, c, hp, hc => by
    rw [spl1_nil, List.mem_singleton] at hp
    rw [hp] at hc
    exact .inl hc
  | d :: r, acc, p, c, hp, hc => by
    rw [spl1_cons] at hp
    split at hp
    · rcases List.mem_cons.mp hp with e | hp
      · rw [e] at hc
        exact .inl hc
      · rcases spl1_mem hp hc with h | h
        · cases h
        · exact .inr (List.mem_cons_of_mem _ h)
    · rcases spl1_mem hp hc with h | h
      · rcases List.mem_append.mp h with h | h
        · exact .inl h
        · rw [List.mem_singleton] at h
          rw [h]
          exact .inr (List.mem_cons_self ..)
      · exact .inr (List.mem_cons_of_mem _ h)
theorem spl1_len {s : Nat} : ∀ (r acc : List Nat), (TL.spl [s] 0 acc r).length ≤ r.length + 1
  | [], acc => by rw [spl1_nil]; exact Nat.le_refl _
  | d :: r, acc => by
    rw [spl1_cons]
    split
    · rw [List.length_cons, List.length_cons]
      have := spl1_len (s := s) r []
      omega
    · rw [List.length_cons]
      have := spl1_len (s := s) r (acc ++ [d])
      omega
theorem split1 (x : Str) (s : Nat) (hs : s < 256) : (Txt.split x ⟨#[s]⟩).map cs = TL.spl [s] 0 [] (cs x) :=
  TL.split_spl x ⟨#[s]⟩ (by simp) (TL.kind_ok (by simp [hs]))
theorem split1_eq (x : Str) (s : Nat) (hs : s < 256) : Txt.split x ⟨#[s]⟩ = (TL.spl [s] 0 [] (cs x)).map fun l => ⟨l.toArray⟩ := by
  rw [← split1 x s hs, List.map_map]
  have e : (fun y : Str => (⟨(cs y).toArray⟩ : Str)) = id := funext fun y => TL.mk_tl y
  show _ = (Txt.split x ⟨#[s]⟩).map fun y => (⟨(cs y).toArray⟩ : Str)
  rw [e, List.map_id]
theorem split1_mem {x p : Str} {s c : Nat} (hs : s < 256) (hp : p ∈ Txt.split x ⟨#[s]⟩) (hc : c ∈ cs p) : c ∈ cs x := by
  have h : cs p ∈ TL.spl [s] 0 [] (cs x) := by
    rw [← split1 x s hs]
    exact List.mem_map_of_mem hp
  rcases spl1_mem h hc with q | q
  · cases q
  · exact q
theorem split1_len {x : Str} {s : Nat} (hs : s < 256) : (Txt.split x ⟨#[s]⟩).length ≤ x.length + 1 := by
  have e := congrArg List.length (split1 x s hs)
  rw [List.length_map] at e
  rw [e, len_cs]
  exact spl1_len _ _
theorem piece_len {x : Str} {s : Nat} (hs : s < 256) {p : Str} (hp : p ∈ Txt.split x ⟨#[s]⟩) : p.length ≤ x.length := by
  have h : cs p ∈ TL.spl [s] 0 [] (cs x) := by
    rw [← split1 x s hs]
    exact List.mem_map_of_mem hp
  have aux : ∀ (r acc p : List Nat), p ∈ TL.spl [s] 0 acc r → p.length ≤ acc.length + r.length := by
    intro r
    induction r with
    | nil =>
      intro acc p hp
      rw [spl1_nil, List.mem_singleton] at hp
      rw [hp]
      exact Nat.le_add_right _ _
    | cons d r ih =>
      intro acc p hp
      rw [spl1_cons] at hp
      split at hp
      · rcases List.mem_cons.mp hp with e | hp
        · rw [e]
          exact Nat.le_add_right _ _
        · have := ih [] p hp
          rw [List.length_cons]
          simp only [List.length_nil] at this
          omega
      · have := ih _ p hp
        rw [List.length_append, List.length_singleton] at this
        rw [List.length_cons]
        omega
  have q := aux _ _ _ h
  rw [len_cs, len_cs x]
  simpa using q
section
variable {J : Jx} {M : Ms} {P : Ent → Ms → Prop}
theorem o_eqSs {xs ys : List Str} (hx : ∀ x ∈ xs, okS x = true) (hy : ∀ x ∈ ys, okS x = true) (p : P (.d (.bool (decide (xs = ys)))) M) : O2 J (rEqU J.K) (.d (.list (xs.map PyData.str))) (.d (.list (ys.map PyData.str))) M P :=
  o_eqL (noObj_strs xs) (noObj_strs ys) (shaped_strs xs hx) (shaped_strs ys hy) (by
    show P (.d (.bool (PyData.eqvAll (xs.map PyData.str) (ys.map PyData.str)))) M
    rw [eqv_strs]
    exact p)
theorem m_joinM {s : Str} {a : Addr} {ys : List Str} (hm : M a = some (.lst (ys.map fun y => Ent.d (.str y)))) (hl : (ys.map (·.length)).sum + ys.length * s.length ≤ 16777216) (p : P (.d (.str (Txt.join s ys))) M) : OM J (rJoin J.K) (.d (.str s)) [.r a] M P := fun F Z H v vs m xr r1 r2 Q q => by
  cases r1
  cases r2 with
  | cons r0 rt =>
    cases rt
    cases r0
    obtain ⟨ws, e, rs⟩ := m.list hm
    have e2 : ys.map (fun y => Ent.d (.str y)) = (ys.map PyData.str).map Ent.d := by rw [List.map_map]; rfl
    rw [e2] at rs
    have ev := (rpAll_of rs).strs
    subst ev
    exact ⟨s, _, ys, rfl, rfl, .inl (.inl (.inl e)), hl, q _ F H (.d (.str _)) M (Same.refl F) m (Rp.str _) p⟩
theorem s_ret_weak {J : Jx} {Γ : Ga} {M : Ms} {D : Nd} {te : TE} (h : Wx J te Γ M fun e M1 => ∃ M0, SameM M0 M1 ∧ D.rt e M0) : Sx J (tRet te) D Γ M := fun F Z σ H C en m x d =>
  h F Z σ H en m x _ fun v F' H' e M' s m' r ⟨M0, w, p⟩ => d.rt F' M0 H' v e s (m'.weak w) r p
theorem sameM_two {M : Ms} {l p : Addr} {x b : Mo} (h : M l = none) (n : l ≠ p) : SameM (um M p b) (um (um M l x) p b) := fun a m e => by
  by_cases hp : a = p
  · subst hp
    rw [um_same] at e ⊢
    exact e
  · rw [um_ne hp] at e ⊢
    by_cases hl : a = l
    · subst hl
      rw [h] at e
      cases e
    · rw [um_ne hl]
      exact e
end
end Z
set_option Elab.async false
set_option linter.all false
set_option maxRecDepth 100000
set_option maxHeartbeats 4000000
namespace K00
open PySem PySem.Spec L2 Z
def topS (i : Nat) : Stmt := PySem.Challenge.pw_hopkeep_k00_fields_read.main.body.getD i (.Pass ⟨0, 0, 0, 0⟩)
def fn : List He.DefD := [dd "is_plain_sign" (topS 11),
  dd "consists_of" (topS 13),
  dd "list_elements" (topS 17),
  dd "_law_bag" (topS 21),
  dd "_law_draw" (topS 22),
  dd "_law_letters" (topS 26),
  dd "_law_signs" (topS 27),
  dd "_law_all_in" (topS 28),
  dd "_law_words" (topS 36),
  dd "_law_truth" (topS 39),
  dd "_law_integer" (topS 40),
  dd "is_plain" (topS 12),
  dd "is_path" (topS 14),
  dd "is_field_name" (topS 15),
  dd "read_number" (topS 18),
  dd "_law_pick" (topS 23),
  dd "_law_most" (topS 24),
  dd "_law_word" (topS 25),
  dd "_law_is_path" (topS 29),
  dd "_law_is_name" (topS 30),
  dd "_law_is_value" (topS 31),
  dd "_law_digits" (topS 32),
  dd "is_value" (topS 16),
  dd "read_reading" (topS 19),
  dd "_law_list" (topS 33),
  dd "_law_spoilt" (topS 35),
  dd "_law_number" (topS 37),
  dd "_law_text" (topS 34),
  dd "_law_signed" (topS 38),
  dd "_law_right" (topS 41),
  dd "law" (topS 42)]
def fa : List He.Fa := [.free "ord",
  .int "PERCENT_CODE" 37,
  .glo "is_plain_sign",
  .free "all",
  .glo "consists_of",
  .glo "list_elements",
  .free "abs",
  .free "len",
  .free "int",
  .free "sum",
  .glo "_law_bag",
  .glo "_law_draw",
  .glo "_law_letters",
  .glo "_law_signs",
  .glo "_law_all_in",
  .glo "_law_words",
  .free "isinstance",
  .free "bool",
  .glo "_law_truth",
  .glo "_law_integer",
  .glo "is_plain",
  .str "PATH_SIGNS" "abcdefghijklmnopqrstuvwxyz0123456789/-.",
  .int "MOST_PATH" 60,
  .glo "is_path",
  .str "LETTERS" "abcdefghijklmnopqrstuvwxyz",
  .str "NAME_SIGNS" "abcdefghijklmnopqrstuvwxyz0123456789-",
  .int "MOST_NAME" 30,
  .str "LENGTH_NAME" "length",
  .glo "is_field_name",
  .int "MOST_DIGITS" 6,
  .str "DIGITS" "0123456789",
  .glo "read_number",
  .glo "_law_pick",
  .glo "_law_most",
  .free "range",
  .glo "_law_word",
  .glo "_law_is_path",
  .glo "_law_is_name",
  .glo "_law_is_value",
  .glo "_law_digits",
  .int "MOST_VALUE" 200,
  .glo "is_value",
  .glo "read_reading",
  .glo "_law_list",
  .glo "_law_spoilt",
  .glo "_law_number",
  .glo "_law_text",
  .glo "_law_signed",
  .free "list",
  .glo "_law_right",
  .free "max",
  .free "min",
  .glo "law"]

open PySem.NumText
def plainC (c : Nat) : Bool := decide (32 ≤ c) && (decide (c ≤ 126) && !decide (c = 37))
def allIn (s t : Str) : Bool := (cs s).all fun c => decide (c ∈ cs t)
def Bg (c : Option Int) (i k : Int) : Mo := .lst [.d (.int i), .d (match c with | none => .none | some j => .int j), .d (.int k)]
theorem fm0 {i j : Int} (h : 0 < j) : 0 ≤ i.fmod j := Int.fmod_nonneg_of_pos i h
theorem fm1 {i j : Int} (h : 0 < j) : i.fmod j < j := Int.fmod_lt_of_pos i h
theorem map_get {α β : Type} {f : α → β} {xs : List α} {i : Nat} {y : β} (h : (xs.map f)[i]? = some y) : ∃ x, xs[i]? = some x ∧ y = f x := by
  rw [List.getElem?_map] at h
  cases e : xs[i]? with
  | none => rw [e] at h; cases h
  | some x => rw [e] at h; exact ⟨x, rfl, (Option.some.inj h).symm⟩
theorem take_succ {α : Type} {xs : List α} {i : Nat} {x : α} (h : xs[i]? = some x) : xs.take (i + 1) = xs.take i ++ [x] := by
  rw [List.take_add_one, h]; rfl
theorem drop_cons {α : Type} {xs : List α} {i : Nat} {x : α} (h : xs[i]? = some x) : xs.drop i = x :: xs.drop (i + 1) := by
  obtain ⟨h1, h2⟩ := List.getElem?_eq_some_iff.mp h
  rw [List.drop_eq_getElem_cons h1, h2]
theorem sg_map (s : Str) : sgE s = (cs s).map fun c => Ent.d (.str ⟨#[c]⟩) := rfl
theorem str_one_inj {c d : Nat} : ((⟨#[c]⟩ : Str) = ⟨#[d]⟩) ↔ c = d := by
  constructor
  · intro h
    have e := congrArg cs h
    simpa using e
  · intro h
    rw [h]
abbrev SIGNS : Str := Str.ofString " !\"#$&'()*+,-./0123456789:;<=>?@ABCDEFGHIJKLMNOPQRSTUVWXYZ[\\]^_`" ++ Str.ofString "abcdefghijklmnopqrstuvwxyz{|}~"
abbrev LETTERS : Str := "abcdefghijklmnopqrstuvwxyz"
abbrev DIGITS : Str := "0123456789"
theorem signs_cs : cs SIGNS = [32, 33, 34, 35, 36, 38, 39, 40, 41, 42, 43, 44, 45, 46, 47, 48, 49, 50, 51, 52, 53, 54, 55, 56, 57, 58, 59, 60, 61, 62, 63, 64, 65, 66, 67, 68, 69, 70, 71, 72, 73, 74, 75, 76, 77, 78, 79, 80, 81, 82, 83, 84, 85, 86, 87, 88, 89, 90, 91, 92, 93, 94, 95, 96, 97, 98, 99, 100, 101, 102, 103, 104, 105, 106, 107, 108, 109, 110, 111, 112, 113, 114, 115, 116, 117, 118, 119, 120, 121, 122, 123, 124, 125, 126] := by decide +kernel
theorem letters_cs : cs LETTERS = [97, 98, 99, 100, 101, 102, 103, 104, 105, 106, 107, 108, 109, 110, 111, 112, 113, 114, 115, 116, 117, 118, 119, 120, 121, 122] := by decide +kernel
theorem digits_cs : cs DIGITS = [48, 49, 50, 51, 52, 53, 54, 55, 56, 57] := by decide +kernel
theorem plain_signs (c : Nat) : plainC c = decide (c ∈ cs SIGNS) := by
  rw [signs_cs]
  by_cases h : c < 127
  · have all : ∀ c, c < 127 → plainC c = decide (c ∈ [32, 33, 34, 35, 36, 38, 39, 40, 41, 42, 43, 44, 45, 46, 47, 48, 49, 50, 51, 52, 53, 54, 55, 56, 57, 58, 59, 60, 61, 62, 63, 64, 65, 66, 67, 68, 69, 70, 71, 72, 73, 74, 75, 76, 77, 78, 79, 80, 81, 82, 83, 84, 85, 86, 87, 88, 89, 90, 91, 92, 93, 94, 95, 96, 97, 98, 99, 100, 101, 102, 103, 104, 105, 106, 107, 108, 109, 110, 111, 112, 113, 114, 115, 116, 117, 118, 119, 120, 121, 122, 123, 124, 125, 126]) := by decide +kernel
    exact all c h
  · have h1 : plainC c = false := by
      unfold plainC
      rw [decide_eq_false (show ¬ c ≤ 126 by omega)]
      simp
    rw [h1]
    refine (decide_eq_false fun hm => ?_).symm
    have hb : ∀ x ∈ [32, 33, 34, 35, 36, 38, 39, 40, 41, 42, 43, 44, 45, 46, 47, 48, 49, 50, 51, 52, 53, 54, 55, 56, 57, 58, 59, 60, 61, 62, 63, 64, 65, 66, 67, 68, 69, 70, 71, 72, 73, 74, 75, 76, 77, 78, 79, 80, 81, 82, 83, 84, 85, 86, 87, 88, 89, 90, 91, 92, 93, 94, 95, 96, 97, 98, 99, 100, 101, 102, 103, 104, 105, 106, 107, 108, 109, 110, 111, 112, 113, 114, 115, 116, 117, 118, 119, 120, 121, 122, 123, 124, 125, 126], x < 127 := by decide +kernel
    exact h (hb c hm)
theorem plain_all (s : Str) : (cs s).all plainC = allIn s SIGNS := by
  unfold allIn
  congr 1
  funext c
  exact plain_signs c
abbrev PATHS : Str := "abcdefghijklmnopqrstuvwxyz0123456789/-."
abbrev NAMES : Str := "abcdefghijklmnopqrstuvwxyz0123456789-"
def pathB (s : Str) : Bool := decide ((cs s).head? = some 47) && (decide ((cs s).length ≤ 60) && allIn s PATHS)
def headIn (s t : Str) : Bool := match (cs s).head? with
  | some c => decide (c ∈ cs t)
  | none => false
def nameB (s : Str) : Bool := decide (1 ≤ (cs s).length) && (decide ((cs s).length ≤ 30) && (!decide (s = "length") && (headIn s LETTERS && allIn s NAMES)))
def valueB (s : Str) : Bool := decide ((cs s).length ≤ 200) && (allIn s SIGNS && decide (s = Txt.stripChars s " "))
def digB (s : Str) : Bool := decide (1 ≤ (cs s).length) && (decide ((cs s).length ≤ 6) && (allIn s DIGITS && !(decide ((cs s).head? = some 48) && !decide (s = "0"))))
def num (s : Str) : Option Int := if digB s = true then some ((digitsVal (cs s) : Nat) : Int) else none
@[reducible] def oi : Option Int → PyData
  | none => .none
  | some n => .int n
theorem dig_all {s : Str} (h : digB s = true) : AllDigits (cs s) ∧ cs s ≠ [] ∧ s.length ≤ 6 := by
  unfold digB allIn at h
  simp only [Bool.and_eq_true, decide_eq_true_eq] at h
  obtain ⟨h1, h2, h3, _⟩ := h
  refine ⟨fun c hc => ?_, fun e => ?_, by rw [len_cs]; exact h2⟩
  · have hm := List.all_eq_true.mp h3 c hc
    rw [decide_eq_true_eq, digits_cs] at hm
    simp only [List.mem_cons, List.not_mem_nil, or_false] at hm
    omega
  · rw [e] at h1
    exact absurd h1 (by decide)
theorem dig_int {s : Str} (h : digB s = true) : PySem.intText? s = some ((digitsVal (cs s) : Nat) : Int) := by
  obtain ⟨h1, h2, h3⟩ := dig_all h
  exact intText_digits h1 h2 (by omega)

def finish (p : List Nat) : List Str := if Txt.stripChars ⟨p.toArray⟩ " " = "" then [] else [Txt.stripChars ⟨p.toArray⟩ " "]
def wordsL (ps : List (List Nat)) : List Str := ps.flatMap finish
def wordsS (s : Str) : List Str := wordsL (TL.spl [44] 0 [] (cs s))
theorem comma_cs : cs (Str.ofString ",") = [44] := by decide +kernel
theorem finish_nil : finish [] = [] := by decide +kernel
theorem words_app (acc r : List Nat) : wordsL (TL.spl [44] 0 acc (r ++ [44])) = wordsL (TL.spl [44] 0 acc r) := by
  induction r generalizing acc with
  | nil =>
    rw [List.nil_append, spl1_cons, if_pos rfl, spl1_nil, spl1_nil]
    unfold wordsL
    rw [List.flatMap_cons, List.flatMap_cons, finish_nil]
    simp
  | cons c r ih =>
    rw [List.cons_append, spl1_cons, spl1_cons]
    split
    · unfold wordsL
      rw [List.flatMap_cons, List.flatMap_cons]
      have := ih []
      unfold wordsL at this
      rw [this]
    · exact ih _
theorem finish_len (p : List Nat) : (finish p).length ≤ 1 := by
  unfold finish
  split <;> simp
theorem finish_str (s : Str) : finish (cs s) = if Txt.stripChars s " " = "" then [] else [Txt.stripChars s " "] := by
  unfold finish
  rw [show (⟨(cs s).toArray⟩ : Str) = s from TL.mk_tl s]
theorem split_words (s : Str) : (Txt.split s ⟨#[44]⟩).flatMap (fun p => finish (cs p)) = wordsS s := by
  unfold wordsS wordsL
  rw [← split1 s 44 (by decide), List.flatMap_map]
theorem words_ok {s : Str} (h : allIn s SIGNS = true) : ∀ x ∈ wordsS s, okS x = true := by
  intro x hx
  unfold wordsS wordsL at hx
  rw [List.mem_flatMap] at hx
  obtain ⟨p, hp, hx⟩ := hx
  unfold finish at hx
  split at hx
  · cases hx
  · rw [List.mem_singleton] at hx
    unfold okS
    rw [List.all_eq_true]
    intro c hc
    rw [hx] at hc
    have h1 : c ∈ p := by
      have := strip_mem hc
      simpa using this
    rcases spl1_mem hp h1 with q | q
    · cases q
    · have h2 := List.all_eq_true.mp h c q
      rw [← plain_signs] at h2
      unfold plainC at h2
      simp only [Bool.and_eq_true, decide_eq_true_eq] at h2
      exact decide_eq_true (by omega)
/-! digit strings: the value is 0 only for "0" -/
theorem dv_ge (l : List Nat) (a : Nat) : a ≤ l.foldl (fun acc c => acc * 10 + (c - 48)) a := by
  induction l generalizing a with
  | nil => exact Nat.le_refl _
  | cons c l ih =>
    rw [List.foldl_cons]
    exact Nat.le_trans (by omega) (ih _)
theorem dig_zero {s : Str} (h : digB s = true) : digitsVal (cs s) = 0 ↔ s = "0" := by
  have h0 := h
  obtain ⟨h1, h2, h3⟩ := dig_all h
  have e0 : cs ("0" : Str) = [48] := by decide +kernel
  constructor
  · intro hv
    unfold digB at h
    simp only [Bool.and_eq_true, decide_eq_true_eq] at h
    obtain ⟨_, _, _, h4⟩ := h
    cases hc : cs s with
    | nil => exact absurd hc h2
    | cons c r =>
      rw [hc] at hv h4
      have hc1 : 48 ≤ c ∧ c ≤ 57 := h1 c (by rw [hc]; exact List.mem_cons_self ..)
      unfold digitsVal at hv
      rw [List.foldl_cons] at hv
      have := dv_ge r (0 * 10 + (c - 48))
      have e : c = 48 := by omega
      subst e
      simp at h4
      exact h4
  · intro e
    rw [e, e0]
    rfl
def rd (s : Str) : Option Int := if (cs s).head? = some 45 then (match num (cutS s (some 1) none) with
  | some n => if n = 0 then none else some (-n)
  | none => none) else num s
theorem num_minus {s : Str} (h : (cs s).head? = some 45) : num s = none := by
  unfold num
  have : digB s = false := by
    cases e : digB s with
    | false => rfl
    | true =>
      obtain ⟨h1, h2, h3⟩ := dig_all e
      cases hc : cs s with
      | nil => exact absurd hc h2
      | cons c r =>
        rw [hc] at h
        have e2 : c = 45 := by simpa using h
        have := h1 c (by rw [hc]; exact List.mem_cons_self ..)
        omega
  rw [this]
  rfl
theorem tail1 (s : Str) : cs (cutS s (some 1) none) = (cs s).drop 1 := cut_from s 1
theorem head1 (s : Str) : cs (cutS s none (some 1)) = (cs s).take 1 := cut_to s 1
theorem head1_eq (s : Str) (c : Nat) : (cutS s none (some 1) = ⟨#[c]⟩) ↔ (cs s).head? = some c := by
  constructor
  · intro h
    have e := congrArg cs h
    rw [head1] at e
    cases hc : cs s with
    | nil => rw [hc] at e; cases e
    | cons d r =>
      rw [hc] at e
      have e2 : [d] = [c] := e
      rw [List.head?_cons, (List.cons.inj e2).1]
  · intro h
    refine cs_inj ?_
    rw [head1]
    cases hc : cs s with
    | nil => rw [hc] at h; cases h
    | cons d r =>
      rw [hc] at h
      have e2 : d = c := Option.some.inj h
      rw [e2]
      rfl
theorem minus0 {s : Str} (h : (cs s).head? = some 45) : s = "-0" ↔ cutS s (some 1) none = "0" := by
  have e1 : cs ("-0" : Str) = [45, 48] := by decide +kernel
  have e2 : cs ("0" : Str) = [48] := by decide +kernel
  constructor
  · intro e
    refine cs_inj ?_
    rw [tail1, e, e1, e2]
    rfl
  · intro e
    have q := congrArg cs e
    rw [tail1, e2] at q
    refine cs_inj ?_
    rw [e1]
    cases hc : cs s with
    | nil => rw [hc] at h; cases h
    | cons d r =>
      rw [hc] at h q
      have : d = 45 := by simpa using h
      rw [this]
      simpa using q
theorem rd_eq {s : Str} (h : (cs s).head? = some 45) : rd s = if s = "-0" then none else if digB (cutS s (some 1) none) = true then some (0 - ((digitsVal (cs (cutS s (some 1) none)) : Nat) : Int)) else none := by
  unfold rd
  rw [if_pos h]
  unfold num
  by_cases hd : digB (cutS s (some 1) none) = true
  · rw [if_pos hd, if_pos hd]
    have hz := dig_zero hd
    rw [← minus0 h] at hz
    by_cases h0 : s = "-0"
    · rw [if_pos h0]
      have := hz.mpr h0
      simp [this]
    · rw [if_neg h0]
      have : digitsVal (cs (cutS s (some 1) none)) ≠ 0 := fun q => h0 (hz.mp q)
      simp [this]
  · rw [if_neg hd, if_neg hd]
    show none = _
    split <;> rfl
def Pk : PyData → Nat → Prop
  | .list ds, m => m = ds.length ∧ 1 ≤ m ∧ m ≤ 100000
  | .str s, m => m = s.length ∧ 1 ≤ m ∧ m ≤ 100000
  | _, _ => False
def Pd : PyData → PyData → Prop
  | .list ds, d => d ∈ ds
  | .str s, d => ∃ x, x ∈ cs s ∧ d = .str ⟨#[x]⟩
  | _, _ => False

/-! stepping -/
local macro_rules | `(tactic| fail "zlook") => `(tactic| first
  | assumption
  | exact um_same
  | ((rw [um_ne (by first | assumption | (apply Ne.symm; assumption))]); fail "zlook"))
local macro_rules | `(tactic| fail "zs") => `(tactic| first
  | with_reducible assumption
  | omega
  | ((with_reducible show _ = _); rfl)
  | (with_reducible trivial)
  | exact Or.inr ⟨by decide, by decide⟩
  | exact Or.inl ⟨by decide, by decide⟩
  | exact ⟨by decide, by decide, by decide⟩
  | exact ⟨by decide, by decide⟩
  | fail "zlook"
  | (simp only [List.length_map, List.length_append, List.length_cons, List.length_nil, len_app, um_same, sizeLine] at *; first | done | omega))
local macro_rules | `(tactic| fail "zl") => `(tactic| with_reducible refine w_lst ?_)
local macro_rules | `(tactic| fail "zk") => `(tactic| fail "no")
-- operations
local macro_rules | `(tactic| fail "zo") => `(tactic| ((with_reducible show O2 _ _ _ _ _ _); first
  | with_reducible refine o_add ?_
  | with_reducible refine o_addS ?_ ?_
  | with_reducible refine o_cat ?_ ?_
  | with_reducible refine o_sub ?_
  | with_reducible refine o_mulI ?_ ?_
  | with_reducible refine o_mulS ?_ ?_
  | with_reducible refine o_fdiv ?_ ?_
  | with_reducible refine o_mod ?_ ?_
  | with_reducible refine o_pow ?_ ?_
  | with_reducible refine o_lt ?_
  | with_reducible refine o_le ?_
  | with_reducible refine o_gt ?_
  | with_reducible refine o_ge ?_
  | with_reducible refine o_ltS ?_
  | with_reducible refine o_leS ?_
  | with_reducible refine o_gtS ?_
  | with_reducible refine o_eq ?_
  | with_reducible refine o_ne ?_
  | with_reducible refine o_eqT ?_
  | with_reducible refine o_neT ?_
  | with_reducible refine o_eqB ?_
  | with_reducible refine o_isN ?_
  | with_reducible refine o_notN ?_
  | with_reducible refine o_inC ?_
  | with_reducible refine o_notInC ?_
  | with_reducible refine o_ixS ?_ ?_ ?_
  | with_reducible refine o_ixL ?_ ?_
  | with_reducible refine o_ixT ?_ ?_
  | with_reducible refine o_ixW ?_ ?_
  | ((with_reducible refine o_ixM (es := ?es) (d := ?dd) ?hm ?hx ?_); (case hm => fail "zlook"); (case hx => rfl))))
-- built-ins
local macro_rules | `(tactic| fail "zn") => `(tactic| ((with_reducible show ON _ _ _ _ _); first
  | with_reducible refine n_lenS ?_ ?_
  | with_reducible refine n_lenL ?_
  | with_reducible refine n_lenT ?_
  | with_reducible refine n_lenW ?_
  | ((with_reducible refine n_lenM (es := ?es) ?hm ?_); (case hm => fail "zlook"))
  | with_reducible refine n_abs ?_
  | with_reducible refine n_max2 ?_
  | with_reducible refine n_min2 ?_
  | with_reducible refine n_int ?_
  | with_reducible refine n_intS ?_ ?_ ?_
  | with_reducible refine n_ord ?_
  | with_reducible refine n_sumW ?_
  | with_reducible refine n_list ?_
  | with_reducible refine n_listW ?_
  | ((with_reducible refine n_isi (b := true) ?h1 ?h2 ?h3 ?_); (case h3 => rfl); (case h2 => simp); (case h1 => first | rfl | exact noObj_strs _))
  | ((with_reducible refine n_isi (b := false) ?h1 ?h2 ?h3 ?_); (case h3 => rfl); (case h2 => simp); (case h1 => first | rfl | exact noObj_strs _))))
-- methods
local macro_rules | `(tactic| fail "zm") => `(tactic| ((with_reducible show OM _ _ _ _ _ _); first
  | with_reducible refine m_startswith ?_
  | with_reducible refine m_endswith ?_
  | with_reducible refine m_find ?_
  | with_reducible refine m_strip ?_ ?_
  | with_reducible refine m_split ?_ ?_ ?_
  | with_reducible refine m_join ?_ ?_
  | ((with_reducible refine m_joinM (ys := ?ys) ?hm ?_ ?_); (case hm => fail "zlook"))
  | ((with_reducible refine m_append (es := ?es) ?hm ?_ ?_); (case hm => fail "zlook"))))
local macro_rules | `(tactic| fail "zS") => `(tactic| ((with_reducible show Sx _ _ _ _ _); first
  | with_reducible refine s_seq ?_
  | with_reducible refine s_set ?_
  | with_reducible refine s_ret ?_
  | with_reducible refine s_retN ?_
  | with_reducible refine s_if ?_
  | with_reducible refine s_drop ?_
  | with_reducible refine s_next ?_
  | with_reducible refine s_break ?_
  | with_reducible refine s_cont ?_
  | with_reducible refine s_asg ?_))
local macro_rules | `(tactic| fail "zW") => `(tactic| ((with_reducible show Wx _ _ _ _ _); first
  | ((with_reducible refine w_var (e := ?e) ?h ?_); (case h => rfl))
  | with_reducible refine w_op ?_
  | with_reducible refine w_int ?_
  | with_reducible refine w_str ?_
  | with_reducible refine w_bl ?_
  | with_reducible refine w_non ?_
  | with_reducible refine w_ty ?_
  | with_reducible refine w_call ?_
  | with_reducible refine w_cb ?_
  | fail "zl"
  | with_reducible refine w_tup ?_
  | with_reducible refine w_m1 ?_
  | with_reducible refine w_bm ?_
  | with_reducible refine w_bm0 ?_
  | with_reducible refine w_slice ?_
  | with_reducible refine w_chain ?_
  | with_reducible refine w_andT ?_
  | with_reducible refine w_orT ?_
  | with_reducible refine w_notT ?_
  | with_reducible refine w_un ?_
  | with_reducible refine w_if ?_
  | with_reducible refine w_callN ?_))
local macro_rules | `(tactic| fail "zT") => `(tactic| first
  | with_reducible refine wa_cons ?_
  | with_reducible refine wa_nil ?_
  | with_reducible refine wt_test ?_
  | with_reducible refine wt_tru ?_
  | with_reducible refine wt_and ?_
  | with_reducible refine wt_or ?_
  | with_reducible refine wt_not ?_
  | with_reducible refine wt_yes ?_
  | with_reducible refine wo_some ?_
  | with_reducible refine wo_none ?_
  | with_reducible refine l_str ?_ ?_
  | with_reducible refine l_list ?_
  | with_reducible refine l_listW ?_
  | with_reducible refine g_name ?_
  | with_reducible refine g_sub ?_
  | with_reducible refine wi_str ?_
  | with_reducible refine wi_list ?_
  | with_reducible refine wi_listW ?_
  | with_reducible refine wi_tup ?_
  | with_reducible refine wi_range1 ?_
  | with_reducible refine wi_range2 ?_
  | ((with_reducible refine g_tup (n := ?n) ?h ?_); (case h => rfl))
  | with_reducible refine gs_cons ?_
  | with_reducible refine gs_nil ?_
  | with_reducible refine o_neg ?_)
local macro_rules | `(tactic| fail "zE") => `(tactic| first
  | with_reducible refine nd_rt ?_
  | with_reducible refine nd_nx ?_
  | with_reducible refine tr_b ?_
  | with_reducible refine tr_i ?_
  | with_reducible refine tr_n ?_
  | with_reducible refine tr_s ?_ ?_
  | with_reducible refine tr_l ?_
  | with_reducible refine tr_t ?_
  | with_reducible refine tr_w ?_
  | ((with_reducible refine tr_r (xs := ?xs) ?hm ?_); (case hm => fail "zlook"))
  | ((with_reducible refine ex_disp (ds := ?ds) ?h ?hl ?_); (case h => rfl); (case hl => rfl))
  | ((with_reducible refine ex_sub (es := ?es) (j := ?j) ?hm ?hj ?_); (case hm => fail "zlook"); (case hj => rfl))
  | ((with_reducible refine ex_kw (args := ?args) ?h1 ?h2 ?h3 ?_); (case h1 => rfl); (case h2 => rfl); (case h3 => (simp only [perm, List.nil_append, List.cons_append, List.filterMap_cons, List.filterMap_nil, List.getElem?_cons_zero, List.getElem?_cons_succ]; rfl)))
  | with_reducible refine ex_s ?_
  | with_reducible refine ty_s ?_
  | with_reducible refine ty_l ?_
  | ((with_reducible refine ty_r (es := ?es) ?hm ?_); (case hm => fail "zlook"))
  | with_reducible refine ex_rg1 ?_ ?_ ?_
  | ((with_reducible refine ex_lm ?hl ?_); (case hl => rfl))
  | with_reducible refine Exists.intro _ (And.intro (Eq.refl _) ?_)
  | ((with_reducible refine And.intro (fun hb => ?_) (fun hb => ?_)) <;> ((try simp only [isN, Bool.not_eq_true', Bool.not_eq_false', decide_eq_true_eq, decide_eq_false_iff_not, Bool.true_eq_false, Bool.false_eq_true, Bool.not_true, Bool.not_false, bne_iff_ne, ne_eq, bne_eq_false_iff_eq, Decidable.not_not] at hb); skip)))
-- one step
local macro_rules | `(tactic| fail "z1") => `(tactic| first
  | fail "zS"
  | fail "zW"
  | fail "zo"
  | fail "zT"
  | fail "zn"
  | fail "zm"
  | fail "zE"
  | fail "zk"
  | with_reducible intro _)
local macro_rules | `(tactic| fail "z") => `(tactic| first
  | (fail "z1" <;> fail "z")
  | (fail "zs"; done)
  | skip)

section
variable {P : Program} {w : World} {K : PySem.W.Frag} {mg : Str → Option Value} {base : Heap}
def c_is_plain_sign : ASp := fun es M Q X => ∃ (sign : Nat), es = [.d (.str ⟨#[sign]⟩)] ∧ (Q (.d (.bool (plainC sign))) M)
theorem k_is_plain_sign {sign : Nat} {M : Ms} {Q : Ent → Ms → Prop} {X : Xa}  (q : Q (.d (.bool (plainC sign))) M) : c_is_plain_sign [.d (.str ⟨#[sign]⟩)] M Q X := ⟨sign, rfl, q⟩
theorem sc_is_plain_sign : FnScope ["sign"] ["sign"] (defScope (topS 11)) := ⟨rfl, rfl, rfl, by decide +kernel, rfl, by decide +kernel, by decide +kernel⟩
theorem ca_is_plain_sign (T : Top fa fn K mg) : Ca P w K mg base "is_plain_sign" (topS 11) 1 ["sign"] c_is_plain_sign := by
  have sc := sc_is_plain_sign
  refine ca_of T 0 2 rfl rfl (fun _ _ _ _ _ _ us hl => match us, hl with | [_], _ => rfl) fun fd F => fn_ok F sc (fun es M Q X h => ?_) fun cdv A outer s H E hr => ⟨_, (pss_one (ps_ret (ke_and (K := K) rfl (pe_chain op_leU op_leU pe_str (pv 0) pe_str) (pe_one (pe_cmpR (kNe (K := K) rfl hr.units) (pe_callB call_ord (by rfl) (T.free 0 rfl) (by decide +kernel) (pa_cons (pv 0) pa_nil)) (C8.pe_gc rfl (T.int 1 rfl)) (nomark _)))))), fun es M Q X h => ?_⟩
  · obtain ⟨sign, rfl, k⟩ := h
    rfl
  · obtain ⟨sign, rfl, k⟩ := h
    try simp only [cx_K, cx_Kx]
    have e1 : (Str.ofString " ").cps.toList = [32] := by decide +kernel
    have e2 : (Str.ofString "~").cps.toList = [126] := by decide +kernel
    fail "z"
    all_goals rename_i hb1 hb2
    all_goals simp only [e1, e2, List.cons_lt_cons_iff, List.not_lt_nil, and_false, or_false, Nat.not_lt] at hb1 hb2 ⊢
    all_goals refine q_of k ?_ rfl
    all_goals simp only [plainC, Ent.d.injEq, PyData.bool.injEq, e2, List.cons_lt_cons_iff, List.not_lt_nil, and_false, or_false]
    · have h3 : decide (32 ≤ sign) = true := decide_eq_true hb1
      have h4 : decide (sign ≤ 126) = true := decide_eq_true hb2
      rw [h3, h4, Bool.true_and, Bool.true_and]
      congr 1
      rw [decide_eq_decide]
      omega
    · have h4 : decide (sign ≤ 126) = false := decide_eq_false (by omega)
      have h5 : decide (126 < sign) = true := decide_eq_true hb2
      rw [h4, h5]
      try simp
    · have h4 : decide (32 ≤ sign) = false := decide_eq_false (by omega)
      rw [h4]
      try simp
local macro_rules | `(tactic| fail "zk") => `(tactic| ((with_reducible refine k_is_plain_sign   ?_)))
def c_consists_of : ASp := fun es M Q X => ∃ (text : Str), ∃ (signs : Str), es = [.d (.str text), .d (.str signs)] ∧ (text.length ≤ 100000) ∧ (Q (.d (.bool (allIn text signs))) M)
theorem k_consists_of {text : Str} {signs : Str} {M : Ms} {Q : Ent → Ms → Prop} {X : Xa} (h1 : text.length ≤ 100000) (q : Q (.d (.bool (allIn text signs))) M) : c_consists_of [.d (.str text), .d (.str signs)] M Q X := ⟨text, signs, rfl, h1, q⟩
theorem sc_consists_of : FnScope ["text", "signs", "sign"] ["text", "signs"] (defScope (topS 13)) := ⟨rfl, rfl, rfl, by decide +kernel, rfl, by decide +kernel, by decide +kernel⟩
theorem ca_consists_of (T : Top fa fn K mg) : Ca P w K mg base "consists_of" (topS 13) 1 ["text", "signs"] c_consists_of := by
  have sc := sc_consists_of
  refine ca_of T 1 4 rfl rfl (fun _ _ _ _ _ _ us hl => match us, hl with | [_, _], _ => rfl) fun fd F => fn_ok F sc (fun es M Q X h => ?_) fun cdv A outer s H E hr => ⟨_, (pss_one (ps_ret (pe_callB (kAll (K := K) rfl rfl) (by rfl) (T.free 3 rfl) (by decide +kernel) (pa_cons (pe_lc (own := [("sign", 2)]) (g := (gName 2)) (tt := tYes) rfl sc.nd (pi_str (pv 0)) (blkOk_by (own := [("sign", 2)]) (N := ["text", "signs", "sign"]) (sc := defScope (topS 13)) (by decide +kernel)) (fun _ _ _ _ _ => (pg_name (i := 2) sc.nd rfl (Or.inl rfl))) (fun _ _ _ _ _ => pts_nil) (fun _ _ _ _ _ => (pe_cmpR (kIn (K := K) rfl) (pv 2) (pv 1) (by rfl)))) pa_nil)))), fun es M Q X h => ?_⟩
  · obtain ⟨text, signs, rfl, h1, k⟩ := h
    rfl
  · obtain ⟨text, signs, rfl, h1, k⟩ := h
    try simp only [cx_K, cx_Kx]
    fail "z"
    refine w_lcf (cs text) (fun c => Ent.d (.str ⟨#[c]⟩)) (fun _ => true) (fun c => .bool (decide (c ∈ cs signs))) (wp_name (by simp)) ?_
    fail "z"
    refine ⟨sg_map text, rfl, by rw [← len_cs]; exact Nat.le_trans h1 (by decide), trivial, fun x _ => ?_, ?_⟩
    · fail "z"
      refine ⟨rfl, fun B b => ?_, fun _ R r => ?_⟩
      · fail "z"
      · fail "z"
    · fail "z"
      rw [List.filter_eq_self.mpr (fun _ _ => rfl)]
      have e : (cs text).map (fun c => PyData.bool (decide (c ∈ cs signs))) = ((cs text).map fun c => decide (c ∈ cs signs)).map PyData.bool := by rw [List.map_map]; rfl
      rw [e]
      refine n_all ?_
      refine q_of k ?_ rfl
      rw [List.all_map]
      rfl
local macro_rules | `(tactic| fail "zk") => `(tactic| ((with_reducible refine k_consists_of  ?_ ?_)))
local macro_rules | `(tactic| fail "zl") => `(tactic| with_reducible refine w_lstM ?_)
def c_list_elements : ASp := fun es M Q X => ∃ (text : Str), es = [.d (.str text)] ∧ (text.length ≤ 100000) ∧ (Q (.d (.list ((wordsS text).map PyData.str))) M)
theorem k_list_elements {text : Str} {M : Ms} {Q : Ent → Ms → Prop} {X : Xa} (h1 : text.length ≤ 100000) (q : Q (.d (.list ((wordsS text).map PyData.str))) M) : c_list_elements [.d (.str text)] M Q X := ⟨text, rfl, h1, q⟩
theorem sc_list_elements : FnScope ["text", "elements_found", "part_text", "element"] ["text"] (defScope (topS 17)) := ⟨rfl, rfl, rfl, by decide +kernel, rfl, by decide +kernel, by decide +kernel⟩
theorem ca_list_elements (T : Top fa fn K mg) : Ca P w K mg base "list_elements" (topS 17) 1 ["text"] c_list_elements := by
  have sc := sc_list_elements
  refine ca_of T 2 5 rfl rfl (fun _ _ _ _ _ _ us hl => match us, hl with | [_], _ => rfl) fun fd F => fn_ok F sc (fun es M Q X h => ?_) fun cdv A outer s H E hr => ⟨_, (pss_cons (ps_set (i := 1) sc.nd rfl (Or.inl rfl) (pe_lst pa_nil))
      (pss_cons (ps_for PassesOwn.never rfl (ki_list (K := K) rfl (pe_m1 PySem.F.slot_str_split PySem.F.type_str_split mt_split (pv 0) pe_str)) (pg_name (i := 2) sc.nd rfl (Or.inl rfl)) (pss_cons (ps_set (i := 3) sc.nd rfl (Or.inl rfl) (pe_m1 PySem.F.slot_str_strip PySem.F.type_str_strip mt_stripChars (pv 2) pe_str))
      (pss_one (ps_if (pt_cmpR (kNe (K := K) rfl hr.units) (pv 3) pe_str (nomark _)) (pss_one (ps_expr (pe_bm PySem.F.plainAttrs_list PySem.F.slot_list_append PySem.F.type_list_append mt_append (pv 1) (pa_cons (pv 3) pa_nil)))) pss_nil))))
      (pss_one (ps_ret (pv 1))))), fun es M Q X h => ?_⟩
  · obtain ⟨text, rfl, h1, k⟩ := h
    rfl
  · obtain ⟨text, rfl, h1, k⟩ := h
    try simp only [cx_K, cx_Kx]
    fail "z"
    rename_i a ha
    refine s_for ?_
    fail "z"
    refine ⟨fun i Γ' M' => (∃ v1 v2, Γ' = [some (.d (.str text)), some (.r a), v1, v2]) ∧ M' = um M a (.lst ((((Txt.split text ⟨#[44]⟩).take i).flatMap fun p => finish (cs p)).map fun y => Ent.d (.str y))), ⟨⟨_, _, rfl⟩, rfl⟩, fun _ _ _ _ _ => trivial, ?_, ?_⟩
    · rintro i e Γ' M' he ⟨⟨v1, v2, rfl⟩, rfl⟩
      obtain ⟨d, hd, rfl⟩ := map_get he
      obtain ⟨p, hp, rfl⟩ := map_get hd
      have hp' : (Txt.split text ⟨#[44]⟩)[i]? = some p := hp
      have hi := (List.getElem?_eq_some_iff.mp hp').1
      have hl := split1_len (x := text) (s := 44) (by decide)
      have hpl := piece_len (s := 44) (by decide) (List.mem_of_getElem? hp')
      have hfl : ∀ l : List Str, (l.flatMap fun p => finish (cs p)).length ≤ l.length := by
        intro l
        induction l with
        | nil => exact Nat.le_refl _
        | cons q l ih =>
          have := finish_len (cs q)
          rw [List.flatMap_cons, List.length_append, List.length_cons]
          omega
      have hfl' := hfl ((Txt.split text ⟨#[44]⟩).take i)
      rw [List.length_take] at hfl'
      fail "z"
      · rename_i hb
        refine ⟨⟨_, _, rfl⟩, ?_⟩
        rw [um_um, take_succ hp', List.flatMap_append, List.flatMap_cons, List.flatMap_nil, finish_str, if_neg hb]
        try simp
      · rename_i hb
        refine ⟨⟨_, _, rfl⟩, ?_⟩
        rw [take_succ hp', List.flatMap_append, List.flatMap_cons, List.flatMap_nil, finish_str, if_pos hb]
        try simp
    · rintro Γ' M' ⟨⟨v1, v2, rfl⟩, rfl⟩
      rw [List.length_map, List.length_map, show Str.ofString "," = (⟨#[44]⟩ : Str) from rfl, List.take_length, split_words]
      refine s_ret_fz (M0 := M) rfl (ds := (wordsS text).map PyData.str) (um_same.trans (by rw [List.map_map]; rfl)) ha (sameM_um ha) ?_
      exact k
local macro_rules | `(tactic| fail "zl") => `(tactic| with_reducible refine w_lst ?_)
local macro_rules | `(tactic| fail "zk") => `(tactic| ((with_reducible refine k_list_elements  ?_ ?_)))
local macro_rules | `(tactic| fail "zl") => `(tactic| with_reducible refine w_lstM ?_)
def c_l_bag : ASp := fun es M Q X => ∃ (ns : List Int), ∃ (kk : Int), es = [.w (ns.map PyData.int), .d (.int kk)] ∧ (0 ≤ kk ∧ kk < 64) ∧ (∀ a c i k, M a = none → Q (.r a) (um M a (Bg c i k)))
theorem k_l_bag {ns : List Int} {kk : Int} {M : Ms} {Q : Ent → Ms → Prop} {X : Xa} (h1 : 0 ≤ kk ∧ kk < 64) (q : ∀ a c i k, M a = none → Q (.r a) (um M a (Bg c i k))) : c_l_bag [.w (ns.map PyData.int), .d (.int kk)] M Q X := ⟨ns, kk, rfl, h1, q⟩
theorem sc_l_bag : FnScope ["_law_script", "_law_k", "_law_cell"] ["_law_script", "_law_k"] (defScope (topS 21)) := ⟨rfl, rfl, rfl, by decide +kernel, rfl, by decide +kernel, by decide +kernel⟩
theorem ca_l_bag (T : Top fa fn K mg) : Ca P w K mg base "_law_bag" (topS 21) 1 ["_law_script", "_law_k"] c_l_bag := by
  have sc := sc_l_bag
  refine ca_of T 3 10 rfl rfl (fun _ _ _ _ _ _ us hl => match us, hl with | [_, _], _ => rfl) fun fd F => fn_ok F sc (fun es M Q X h => ?_) fun cdv A outer s H E hr => ⟨_, (pss_cons (ps_if (pt_not (kt_tru (K := K) rfl (pv 0) (by intro _; rfl))) (pss_one (ps_ret (pe_lst (pa_cons pe_int (pa_cons pe_non (pa_cons pe_int pa_nil)))))) pss_nil)
      (pss_cons (ps_set (i := 2) sc.nd rfl (Or.inl rfl) (pe_op (kAdd (K := K) rfl) (pe_op op_modN (pe_callTy call_intU (by rfl) (T.free 8 rfl) (by decide +kernel) (pa_cons (pe_callB (kSum (K := K) rfl rfl) (by rfl) (T.free 9 rfl) (by decide +kernel) (pa_cons (pv 0) pa_nil)) pa_nil)) pe_int) (pe_op op_mulU pe_int (pv 1))))
      (pss_cons (ps_if (pt_cmpR op_ltU (pv 1) (pe_callB (kLen (K := K) rfl) (by rfl) (T.free 7 rfl) (by decide +kernel) (pa_cons (pv 0) pa_nil)) (nomark _)) (pss_one (ps_set (i := 2) sc.nd rfl (Or.inl rfl) (pe_ix (kIx (K := K) rfl) (pv 0) (pv 1) (fun _ _ => rfl)))) pss_nil)
      (pss_one (ps_ret (pe_lst (pa_cons (pe_op op_sub (pe_callB call_abs (by rfl) (T.free 6 rfl) (by decide +kernel) (pa_cons (pv 2) pa_nil)) (pe_op op_pow pe_int pe_int)) (pa_cons (pv 2) (pa_cons pe_int pa_nil))))))))), fun es M Q X h => ?_⟩
  · obtain ⟨ns, kk, rfl, h1, k⟩ := h
    rfl
  · obtain ⟨ns, kk, rfl, h1, k⟩ := h
    try simp only [cx_K, cx_Kx]
    fail "z"
    · exact k _ none 0 0 (by assumption)
    · rename_i hb1 hb2
      rw [List.length_map] at hb2
      obtain ⟨x, hx⟩ : ∃ x, ns[kk.toNat]? = some x := ⟨ns[kk.toNat]'(by omega), List.getElem?_eq_getElem (by omega)⟩
      refine o_ixW (d := .int x) (atI_nat' h1.1 (by rw [List.getElem?_map, hx]; rfl)) ?_
      fail "z"
      exact k _ (some _) _ _ (by assumption)
    · exact k _ (some _) _ _ (by assumption)
local macro_rules | `(tactic| fail "zl") => `(tactic| with_reducible refine w_lst ?_)
local macro_rules | `(tactic| fail "zk") => `(tactic| ((with_reducible refine k_l_bag  ?_ ?_)))
def c_l_draw : ASp := fun es M Q X => ∃ (p : Addr), ∃ (size : Int), ∃ (c : Option Int), ∃ (i : Int), ∃ (n : Int), es = [.r p, .d (.int size)] ∧ (M p = some (Bg c i n)) ∧ (size ≤ 100000) ∧ (∀ d i2 n2, 0 ≤ d → (2 ≤ size → d < size) → (size < 2 → d = 0) → Q (.d (.int d)) (um M p (Bg c i2 n2)))
theorem k_l_draw {p : Addr} {size : Int} {c : Option Int} {i : Int} {n : Int} {M : Ms} {Q : Ent → Ms → Prop} {X : Xa} (h1 : M p = some (Bg c i n)) (h2 : size ≤ 100000) (q : ∀ d i2 n2, 0 ≤ d → (2 ≤ size → d < size) → (size < 2 → d = 0) → Q (.d (.int d)) (um M p (Bg c i2 n2))) : c_l_draw [.r p, .d (.int size)] M Q X := ⟨p, size, c, i, n, rfl, h1, h2, q⟩
theorem k2_l_draw {p : Addr} {size : Int} {c : Option Int} {i : Int} {n : Int} {M : Ms} {Q : Ent → Ms → Prop} {X : Xa} (h2 : size ≤ 100000) (q : ∀ d i2 n2, 0 ≤ d → (2 ≤ size → d < size) → (size < 2 → d = 0) → Q (.d (.int d)) (um M p (Bg c i2 n2))) : c_l_draw [.r p, .d (.int size)] (um M p (Bg c i n)) Q X := k_l_draw (c := c) (i := i) (n := n) um_same h2 (by simpa only [um_um] using q)
theorem sc_l_draw : FnScope ["_law_bag_here", "_law_size", "_law_digit", "_law_one", "_law_two", "_law_three"] ["_law_bag_here", "_law_size"] (defScope (topS 22)) := ⟨rfl, rfl, rfl, by decide +kernel, rfl, by decide +kernel, by decide +kernel⟩
theorem ca_l_draw (T : Top fa fn K mg) : Ca P w K mg base "_law_draw" (topS 22) 1 ["_law_bag_here", "_law_size"] c_l_draw := by
  have sc := sc_l_draw
  refine ca_of T 4 11 rfl rfl (fun _ _ _ _ _ _ us hl => match us, hl with | [_, _], _ => rfl) fun fd F => fn_ok F sc (fun es M Q X h => ?_) fun cdv A outer s H E hr => ⟨_, (pss_cons (ps_if (PW.pt (pw_or (pt_cmpR op_ltU (pv 1) pe_int (nomark _)) (pw_or1 (pt_cmpR op_isN1 (pe_ix (kIx (K := K) rfl) (pv 0) pe_int (fun _ _ => rfl)) pe_non (nomark _))))) (pss_one (ps_ret pe_int)) pss_nil)
      (pss_cons (ps_asg (pe_op (kAdd (K := K) rfl) (pe_ix (kIx (K := K) rfl) (pv 0) pe_int (fun _ _ => rfl)) pe_int) (pg_sub (pv 0) pe_int set_list))
      (pss_cons (ps_if (pt_cmpR op_gtU (pe_ix (kIx (K := K) rfl) (pv 0) pe_int (fun _ _ => rfl)) pe_int (nomark _)) (pss_cons (ps_set (i := 2) sc.nd rfl (Or.inl rfl) (pe_op op_modN (pe_callTy call_intU (by rfl) (T.free 8 rfl) (by decide +kernel) (pa_cons (pe_ix (kIx (K := K) rfl) (pv 0) pe_int (fun _ _ => rfl)) pa_nil)) (pv 1)))
      (pss_cons (ps_asg (pe_op op_fdivN (pe_ix (kIx (K := K) rfl) (pv 0) pe_int (fun _ _ => rfl)) (pv 1)) (pg_sub (pv 0) pe_int set_list))
      (pss_one (ps_ret (pv 2))))) pss_nil)
      (pss_cons (ps_set (i := 3) sc.nd rfl (Or.inl rfl) (pe_op op_modN (pe_callTy call_intU (by rfl) (T.free 8 rfl) (by decide +kernel) (pa_cons (pe_op (kAdd (K := K) rfl) (pe_op (kAdd (K := K) rfl) (pe_op op_mulU (pe_ix (kIx (K := K) rfl) (pv 0) pe_int (fun _ _ => rfl)) pe_int) (pe_op op_mulU (pe_ix (kIx (K := K) rfl) (pv 0) pe_int (fun _ _ => rfl)) pe_int)) pe_int) pa_nil)) pe_int))
      (pss_cons (ps_set (i := 4) sc.nd rfl (Or.inl rfl) (pe_op op_modN (pe_callTy call_intU (by rfl) (T.free 8 rfl) (by decide +kernel) (pa_cons (pe_op (kAdd (K := K) rfl) (pe_op op_mulU (pv 3) (pv 3)) (pe_op op_mulU (pe_ix (kIx (K := K) rfl) (pv 0) pe_int (fun _ _ => rfl)) pe_int)) pa_nil)) pe_int))
      (pss_cons (ps_set (i := 5) sc.nd rfl (Or.inl rfl) (pe_op op_modN (pe_callTy call_intU (by rfl) (T.free 8 rfl) (by decide +kernel) (pa_cons (pe_op (kAdd (K := K) rfl) (pe_op op_mulU (pv 4) (pv 4)) (pe_op op_mulU (pv 3) pe_int)) pa_nil)) pe_int))
      (pss_one (ps_ret (pe_op op_modN (pe_callTy call_intU (by rfl) (T.free 8 rfl) (by decide +kernel) (pa_cons (pe_op op_fdivN (pv 5) pe_int) pa_nil)) (pv 1)))))))))), fun es M Q X h => ?_⟩
  · obtain ⟨p, size, c, i, n, rfl, h1, h2, k⟩ := h
    rfl
  · obtain ⟨p, size, c, i, n, rfl, h1, h2, k⟩ := h
    try simp only [cx_K, cx_Kx]
    have h9 : um M p (Bg c i n) = M := um_id h1
    cases c with
    | none =>
      fail "z"
      all_goals first
        | (have k' := k 0 i n (by omega) (by omega) (by omega); rw [h9] at k'; exact k')
        | skip
    | some c0 =>
      fail "z"
      · exact ⟨by omega, by omega⟩
      · rw [um_um]
        exact k _ (i.fdiv size) (n + 1) (fm0 (by omega)) (fun _ => fm1 (by omega)) (fun _ => by omega)
      all_goals first
        | (have k' := k 0 i n (by omega) (by omega) (by omega); rw [h9] at k'; exact k')
        | skip
      all_goals generalize hx : ((c0 * 48271 + (n + 1) * 69621 + 11 : Int).fmod 2147483647) = x
      all_goals have b1 : 0 ≤ x := by rw [← hx]; exact fm0 (by decide)
      all_goals have b2 : x < 2147483647 := by rw [← hx]; exact fm1 (by decide)
      · exact Or.inl ⟨by omega, by omega⟩
      all_goals generalize hy : ((x * x + (n + 1) * 7919 : Int).fmod 2147483629) = y
      all_goals have b3 : 0 ≤ y := by rw [← hy]; exact fm0 (by decide)
      all_goals have b4 : y < 2147483629 := by rw [← hy]; exact fm1 (by decide)
      · exact Or.inl ⟨by omega, by omega⟩
      · exact k _ i (n + 1) (fm0 (by omega)) (fun _ => fm1 (by omega)) (fun _ => by omega)
local macro_rules | `(tactic| fail "zk") => `(tactic| ((with_reducible refine k_l_draw (c := ?c) (i := ?i) (n := ?n) ?hh0 ?_ ?_) ; (case hh0 => fail "zlook")))
local macro_rules | `(tactic| fail "zk") => `(tactic| with_reducible refine k2_l_draw ?_ ?_)
def c_l_letters : ASp := fun es M Q X => es = [] ∧ (Q (.d (.str LETTERS)) M)
theorem k_l_letters  {M : Ms} {Q : Ent → Ms → Prop} {X : Xa}  (q : Q (.d (.str LETTERS)) M) : c_l_letters [] M Q X := ⟨rfl, q⟩
theorem sc_l_letters : FnScope [] [] (defScope (topS 26)) := ⟨rfl, rfl, rfl, by decide +kernel, rfl, by decide +kernel, by decide +kernel⟩
theorem ca_l_letters (T : Top fa fn K mg) : Ca P w K mg base "_law_letters" (topS 26) 1 [] c_l_letters := by
  have sc := sc_l_letters
  refine ca_of T 5 12 rfl rfl (fun _ _ _ _ _ _ us hl => match us, hl with | [], _ => rfl) fun fd F => fn_ok F sc (fun es M Q X h => ?_) fun cdv A outer s H E hr => ⟨_, (pss_one (ps_ret pe_str)), fun es M Q X h => ?_⟩
  · obtain ⟨rfl, k⟩ := h
    rfl
  · obtain ⟨rfl, k⟩ := h
    try simp only [cx_K, cx_Kx]
    fail "z"
local macro_rules | `(tactic| fail "zk") => `(tactic| ((with_reducible refine k_l_letters   ?_)))
def c_l_signs : ASp := fun es M Q X => es = [] ∧ (Q (.d (.str SIGNS)) M)
theorem k_l_signs  {M : Ms} {Q : Ent → Ms → Prop} {X : Xa}  (q : Q (.d (.str SIGNS)) M) : c_l_signs [] M Q X := ⟨rfl, q⟩
theorem sc_l_signs : FnScope ["_law_low"] [] (defScope (topS 27)) := ⟨rfl, rfl, rfl, by decide +kernel, rfl, by decide +kernel, by decide +kernel⟩
theorem ca_l_signs (T : Top fa fn K mg) : Ca P w K mg base "_law_signs" (topS 27) 1 [] c_l_signs := by
  have sc := sc_l_signs
  refine ca_of T 6 13 rfl rfl (fun _ _ _ _ _ _ us hl => match us, hl with | [], _ => rfl) fun fd F => fn_ok F sc (fun es M Q X h => ?_) fun cdv A outer s H E hr => ⟨_, (pss_cons (ps_set (i := 0) sc.nd rfl (Or.inl rfl) pe_str)
      (pss_one (ps_ret (pe_op (kAdd (K := K) rfl) (pv 0) pe_str)))), fun es M Q X h => ?_⟩
  · obtain ⟨rfl, k⟩ := h
    rfl
  · obtain ⟨rfl, k⟩ := h
    try simp only [cx_K, cx_Kx]
    fail "z"
    all_goals decide +kernel
local macro_rules | `(tactic| fail "zk") => `(tactic| ((with_reducible refine k_l_signs   ?_)))
def c_l_all_in : ASp := fun es M Q X => ∃ (text : Str), ∃ (signs : Str), es = [.d (.str text), .d (.str signs)] ∧ (Q (.d (.bool (allIn text signs))) M)
theorem k_l_all_in {text : Str} {signs : Str} {M : Ms} {Q : Ent → Ms → Prop} {X : Xa}  (q : Q (.d (.bool (allIn text signs))) M) : c_l_all_in [.d (.str text), .d (.str signs)] M Q X := ⟨text, signs, rfl, q⟩
theorem sc_l_all_in : FnScope ["_law_text_here", "_law_signs_here", "_law_sign"] ["_law_text_here", "_law_signs_here"] (defScope (topS 28)) := ⟨rfl, rfl, rfl, by decide +kernel, rfl, by decide +kernel, by decide +kernel⟩
theorem ca_l_all_in (T : Top fa fn K mg) : Ca P w K mg base "_law_all_in" (topS 28) 1 ["_law_text_here", "_law_signs_here"] c_l_all_in := by
  have sc := sc_l_all_in
  refine ca_of T 7 14 rfl rfl (fun _ _ _ _ _ _ us hl => match us, hl with | [_, _], _ => rfl) fun fd F => fn_ok F sc (fun es M Q X h => ?_) fun cdv A outer s H E hr => ⟨_, (pss_cons (ps_for PassesOwn.never rfl (pi_str (pv 0)) (pg_name (i := 2) sc.nd rfl (Or.inl rfl)) (pss_one (ps_if (pt_cmpR (kNotIn (K := K) rfl) (pv 2) (pv 1) (by rfl)) (pss_one (ps_ret pe_bl)) pss_nil)))
      (pss_one (ps_ret pe_bl))), fun es M Q X h => ?_⟩
  · obtain ⟨text, signs, rfl, k⟩ := h
    rfl
  · obtain ⟨text, signs, rfl, k⟩ := h
    try simp only [cx_K, cx_Kx]
    fail "z"
    refine s_for ?_
    fail "z"
    refine ⟨fun i Γ' M' => M' = M ∧ (∃ v, Γ' = [some (.d (.str text)), some (.d (.str signs)), v]) ∧ ∀ c ∈ (cs text).take i, c ∈ cs signs, ⟨rfl, ⟨_, rfl⟩, by simp⟩, fun _ _ _ _ _ => trivial, ?_, ?_⟩
    · rintro i e Γ' M' he ⟨rfl, ⟨v, rfl⟩, hall⟩
      obtain ⟨c, hc, rfl⟩ := sgE_get he
      fail "z"
      · rename_i hb
        refine q_of k ?_ rfl
        have hm : c ∈ cs text := List.mem_of_getElem? hc
        have : allIn text signs = false := by
          unfold allIn
          rw [List.all_eq_false]
          exact ⟨c, hm, by rw [decide_eq_false hb]; decide⟩
        rw [this]
      · rename_i hb
        refine ⟨rfl, ⟨_, rfl⟩, ?_⟩
        rw [take_succ hc]
        intro d hd
        rcases List.mem_append.mp hd with hd | hd
        · exact hall d hd
        · rw [List.mem_singleton] at hd
          rw [hd]
          exact hb
    · rintro Γ' M' ⟨rfl, ⟨v, rfl⟩, hall⟩
      fail "z"
      refine q_of k ?_ rfl
      rw [sgE_len, len_cs, List.take_length] at hall
      have : allIn text signs = true := by
        unfold allIn
        rw [List.all_eq_true]
        intro c hc
        exact decide_eq_true (hall c hc)
      rw [this]
local macro_rules | `(tactic| fail "zk") => `(tactic| ((with_reducible refine k_l_all_in   ?_)))
local macro_rules | `(tactic| fail "zl") => `(tactic| with_reducible refine w_lstM ?_)
def c_l_words : ASp := fun es M Q X => ∃ (text : Str), es = [.d (.str text)] ∧ (text.length ≤ 100000) ∧ (Q (.d (.list ((wordsS text).map PyData.str))) M)
theorem k_l_words {text : Str} {M : Ms} {Q : Ent → Ms → Prop} {X : Xa} (h1 : text.length ≤ 100000) (q : Q (.d (.list ((wordsS text).map PyData.str))) M) : c_l_words [.d (.str text)] M Q X := ⟨text, rfl, h1, q⟩
theorem sc_l_words : FnScope ["_law_text_here", "_law_found", "_law_word_here", "_law_sign"] ["_law_text_here"] (defScope (topS 36)) := ⟨rfl, rfl, rfl, by decide +kernel, rfl, by decide +kernel, by decide +kernel⟩
theorem ca_l_words (T : Top fa fn K mg) : Ca P w K mg base "_law_words" (topS 36) 1 ["_law_text_here"] c_l_words := by
  have sc := sc_l_words
  refine ca_of T 8 15 rfl rfl (fun _ _ _ _ _ _ us hl => match us, hl with | [_], _ => rfl) fun fd F => fn_ok F sc (fun es M Q X h => ?_) fun cdv A outer s H E hr => ⟨_, (pss_cons (ps_set (i := 1) sc.nd rfl (Or.inl rfl) (pe_lst pa_nil))
      (pss_cons (ps_set (i := 2) sc.nd rfl (Or.inl rfl) pe_str)
      (pss_cons (ps_for PassesOwn.never rfl (pi_str (pe_op (kAdd (K := K) rfl) (pv 0) pe_str)) (pg_name (i := 3) sc.nd rfl (Or.inl rfl)) (pss_one (ps_if (pt_cmpR (kEq (K := K) rfl hr.units) (pv 3) pe_str (nomark _)) (pss_cons (ps_set (i := 2) sc.nd rfl (Or.inl rfl) (pe_m1 PySem.F.slot_str_strip PySem.F.type_str_strip mt_stripChars (pv 2) pe_str))
      (pss_cons (ps_if (pt_cmpR (kNe (K := K) rfl hr.units) (pv 2) pe_str (nomark _)) (pss_one (ps_expr (pe_bm PySem.F.plainAttrs_list PySem.F.slot_list_append PySem.F.type_list_append mt_append (pv 1) (pa_cons (pv 2) pa_nil)))) pss_nil)
      (pss_one (ps_set (i := 2) sc.nd rfl (Or.inl rfl) pe_str)))) (pss_one (ps_set (i := 2) sc.nd rfl (Or.inl rfl) (pe_op (kAdd (K := K) rfl) (pv 2) (pv 3)))))))
      (pss_one (ps_ret (pv 1)))))), fun es M Q X h => ?_⟩
  · obtain ⟨text, rfl, h1, k⟩ := h
    rfl
  · obtain ⟨text, rfl, h1, k⟩ := h
    try simp only [cx_K, cx_Kx]
    have ecat : cs (text ++ Str.ofString ",") = cs text ++ [44] := cs_app _ _
    have elen : (Str.ofString ",").length = 1 := by decide +kernel
    fail "z"
    rename_i a ha
    refine s_for ?_
    fail "z"
    refine ⟨fun i Γ' M' => ∃ (fs : List Str) (u : List Nat) (v : Option Ent), Γ' = [some (.d (.str text)), some (.r a), some (.d (.str ⟨u.toArray⟩)), v] ∧ M' = um M a (.lst (fs.map fun y => Ent.d (.str y))) ∧ fs ++ wordsL (TL.spl [44] 0 u ((cs text ++ [44]).drop i)) = wordsS text ∧ fs.length ≤ i ∧ u.length ≤ i ∧ (i = (cs text).length + 1 → u = []), ⟨[], [], _, rfl, rfl, ?_, Nat.le_refl _, Nat.le_refl _, fun _ => rfl⟩, fun _ _ _ _ _ => trivial, ?_, ?_⟩
    · rw [List.drop_zero, List.nil_append, words_app]
      rfl
    · rintro i e Γ' M' he ⟨fs, u, v, rfl, rfl, hw, hf, hwl, hlast⟩
      obtain ⟨c, hc, rfl⟩ := sgE_get he
      have hc' : (cs text ++ [44])[i]? = some c := by rw [← ecat]; exact hc
      have hi := (List.getElem?_eq_some_iff.mp hc').1
      rw [List.length_append, ← len_cs] at hi
      have hi2 : i ≤ 100000 := by simp at hi; omega
      rw [drop_cons hc', spl1_cons] at hw
      have wl : (⟨u.toArray⟩ : Str).length = u.length := by simp [Str.length]
      have e9 : (({ cps := #[c] } : Str) = Str.ofString ",") ↔ c = 44 := str_one_inj (d := 44)
      fail "z"
      · rename_i hb1 hb2
        rw [if_pos (e9.mp hb1)] at hw
        refine ⟨fs ++ [Txt.stripChars ⟨u.toArray⟩ (Str.ofString " ")], [], _, rfl, ?_, ?_, ?_, by simp, fun _ => rfl⟩
        · rw [um_um]
          simp
        · rw [← hw]
          unfold wordsL
          rw [List.flatMap_cons, List.append_assoc]
          have : finish u = [Txt.stripChars ⟨u.toArray⟩ " "] := by unfold finish; rw [if_neg hb2]
          rw [this]
        · simp
          exact hf
      · rename_i hb1 hb2
        rw [if_pos (e9.mp hb1)] at hw
        refine ⟨fs, [], _, rfl, rfl, ?_, by omega, by simp, fun _ => rfl⟩
        rw [← hw]
        unfold wordsL
        rw [List.flatMap_cons]
        have : finish u = [] := by unfold finish; rw [if_pos hb2]
        rw [this]
        rfl
      · rw [wl]
        show u.length + 1 ≤ sizeLine
        exact Nat.le_trans (show u.length + 1 ≤ 100002 by omega) (by decide)
      · rename_i hb1
        rw [if_neg fun q => hb1 (e9.mpr q)] at hw
        refine ⟨fs, u ++ [c], some (.d (.str ⟨#[c]⟩)), ?_, rfl, hw, by omega, by simp; omega, fun q => ?_⟩
        have this : (⟨u.toArray⟩ : Str) ++ (⟨#[c]⟩ : Str) = ⟨(u ++ [c]).toArray⟩ := cs_inj (by rw [cs_app])
        · rw [this]
          rfl
        · have e3 : i = (cs text).length := by omega
          rw [e3, List.getElem?_append_right (Nat.le_refl _), Nat.sub_self] at hc'
          exact absurd (e9.mpr (Option.some.inj hc').symm) hb1
    · rintro Γ' M' ⟨fs, u, v, rfl, rfl, hw, hf, hwl, hlast⟩
      have hn : (sgE (text ++ Str.ofString ",")).length = (cs text ++ [44]).length := by rw [sgE_len, len_cs, ecat]
      rw [hn, List.drop_length, spl1_nil] at hw
      have hfin : fs = wordsS text := by
        have hu := hlast (by rw [hn, List.length_append]; rfl)
        rw [hu] at hw
        rw [← hw]
        unfold wordsL
        rw [List.flatMap_cons, finish_nil]
        simp
      rw [hfin]
      refine s_ret_fz (M0 := M) rfl (ds := (wordsS text).map PyData.str) (um_same.trans (by rw [List.map_map]; rfl)) ha (sameM_um ha) ?_
      exact k
local macro_rules | `(tactic| fail "zl") => `(tactic| with_reducible refine w_lst ?_)
local macro_rules | `(tactic| fail "zk") => `(tactic| ((with_reducible refine k_l_words  ?_ ?_)))
def c_l_truth : ASp := fun es M Q X => ∃ (told : Bool), ∃ (due : Bool), es = [.d (.bool told), .d (.bool due)] ∧ (Q (.d (.bool (decide (told = due)))) M)
theorem k_l_truth {told : Bool} {due : Bool} {M : Ms} {Q : Ent → Ms → Prop} {X : Xa}  (q : Q (.d (.bool (decide (told = due)))) M) : c_l_truth [.d (.bool told), .d (.bool due)] M Q X := ⟨told, due, rfl, q⟩
theorem sc_l_truth : FnScope ["_law_told", "_law_due"] ["_law_told", "_law_due"] (defScope (topS 39)) := ⟨rfl, rfl, rfl, by decide +kernel, rfl, by decide +kernel, by decide +kernel⟩
theorem ca_l_truth (T : Top fa fn K mg) : Ca P w K mg base "_law_truth" (topS 39) 1 ["_law_told", "_law_due"] c_l_truth := by
  have sc := sc_l_truth
  refine ca_of T 9 18 rfl rfl (fun _ _ _ _ _ _ us hl => match us, hl with | [_, _], _ => rfl) fun fd F => fn_ok F sc (fun es M Q X h => ?_) fun cdv A outer s H E hr => ⟨_, (pss_one (ps_ret (ke_and (K := K) rfl (pe_callB (kIsi (K := K) rfl) (by rfl) (T.free 16 rfl) (by decide +kernel) (pa_cons (pv 0) (pa_cons (pe_bltn (v := .ty "bool") (by rfl) (T.free 17 rfl) PyProof.Rows.boot_bool rfl) pa_nil))) (pe_one (pe_cmpR (kEq (K := K) rfl hr.units) (pv 0) (pv 1) (nomark _)))))), fun es M Q X h => ?_⟩
  · obtain ⟨told, due, rfl, k⟩ := h
    rfl
  · obtain ⟨told, due, rfl, k⟩ := h
    try simp only [cx_K, cx_Kx]
    fail "z"
local macro_rules | `(tactic| fail "zk") => `(tactic| ((with_reducible refine k_l_truth   ?_)))
def c_l_integer : ASp := fun es M Q X => ∃ (told due : Option Int), es = [.d (oi told), .d (oi due)] ∧ Q (.d (.bool (decide (told = due)))) M
theorem k_l_integer {told due : Option Int} {M : Ms} {Q : Ent → Ms → Prop} {X : Xa} (q : Q (.d (.bool (decide (told = due)))) M) : c_l_integer [.d (oi told), .d (oi due)] M Q X := ⟨told, due, rfl, q⟩
theorem sc_l_integer : FnScope ["_law_told", "_law_due"] ["_law_told", "_law_due"] (defScope (topS 40)) := ⟨rfl, rfl, rfl, by decide +kernel, rfl, by decide +kernel, by decide +kernel⟩
theorem ca_l_integer (T : Top fa fn K mg) : Ca P w K mg base "_law_integer" (topS 40) 1 ["_law_told", "_law_due"] c_l_integer := by
  have sc := sc_l_integer
  refine ca_of T 10 19 rfl rfl (fun _ _ _ _ _ _ us hl => match us, hl with | [_, _], _ => rfl) fun fd F => fn_ok F sc (fun es M Q X h => ?_) fun cdv A outer s H E hr => ⟨_, (pss_cons (ps_if (pt_cmpR op_isN1 (pv 1) pe_non (nomark _)) (pss_one (ps_ret (pe_cmpR op_isN1 (pv 0) pe_non (nomark _)))) pss_nil)
      (pss_one (ps_ret (ke_and (K := K) rfl (pe_callB (kIsi (K := K) rfl) (by rfl) (T.free 16 rfl) (by decide +kernel) (pa_cons (pv 0) (pa_cons (pe_bltn (v := .ty "int") (by rfl) (T.free 8 rfl) PyProof.Rows.boot_int rfl) pa_nil))) (ke_and (K := K) rfl (ke_not (K := K) rfl (pe_callB (kIsi (K := K) rfl) (by rfl) (T.free 16 rfl) (by decide +kernel) (pa_cons (pv 0) (pa_cons (pe_bltn (v := .ty "bool") (by rfl) (T.free 17 rfl) PyProof.Rows.boot_bool rfl) pa_nil)))) (pe_one (pe_cmpR (kEq (K := K) rfl hr.units) (pv 0) (pv 1) (nomark _)))))))), fun es M Q X h => ?_⟩
  · obtain ⟨told, due, rfl, k⟩ := h
    rfl
  · obtain ⟨told, due, rfl, k⟩ := h
    try simp only [cx_K, cx_Kx]
    cases told with
    | none =>
      cases due with
      | none =>
        fail "z"
        all_goals refine q_of k ?_ rfl
        all_goals rfl
      | some b =>
        fail "z"
        all_goals refine q_of k ?_ rfl
        all_goals rfl
    | some a =>
      cases due with
      | none =>
        fail "z"
        all_goals refine q_of k ?_ rfl
        all_goals rfl
      | some b =>
        fail "z"
        all_goals refine q_of k ?_ rfl
        all_goals simp [isB, tyN] at *
local macro_rules | `(tactic| fail "zk") => `(tactic| with_reducible refine k_l_integer ?_)
def c_is_plain : ASp := fun es M Q X => ∃ (text : Str), es = [.d (.str text)] ∧ (text.length ≤ 100000) ∧ (Q (.d (.bool ((cs text).all plainC))) M)
theorem k_is_plain {text : Str} {M : Ms} {Q : Ent → Ms → Prop} {X : Xa} (h1 : text.length ≤ 100000) (q : Q (.d (.bool ((cs text).all plainC))) M) : c_is_plain [.d (.str text)] M Q X := ⟨text, rfl, h1, q⟩
theorem sc_is_plain : FnScope ["text", "sign"] ["text"] (defScope (topS 12)) := ⟨rfl, rfl, rfl, by decide +kernel, rfl, by decide +kernel, by decide +kernel⟩
theorem ca_is_plain (T : Top fa fn K mg) : Ca P w K mg base "is_plain" (topS 12) 2 ["text"] c_is_plain := by
  have sc := sc_is_plain
  refine ca_of T 11 20 rfl rfl (fun _ _ _ _ _ _ us hl => match us, hl with | [_], _ => rfl) fun fd F => fn_ok F sc (fun es M Q X h => ?_) fun cdv A outer s H E hr => ⟨_, (pss_one (ps_ret (pe_callB (kAll (K := K) rfl rfl) (by rfl) (T.free 3 rfl) (by decide +kernel) (pa_cons (pe_lc (own := [("sign", 1)]) (g := (gName 1)) (tt := tYes) rfl sc.nd (pi_str (pv 0)) (blkOk_by (own := [("sign", 1)]) (N := ["text", "sign"]) (sc := defScope (topS 12)) (by decide +kernel)) (fun _ _ _ _ _ => (pg_name (i := 1) sc.nd rfl (Or.inl rfl))) (fun _ _ _ _ _ => pts_nil) (fun _ _ _ _ _ => (ke_ca (K := K) rfl (ca_is_plain_sign (P := P) (w := w) (base := base) T) hr (by decide) rfl (pa_cons (pv 1) pa_nil)))) pa_nil)))), fun es M Q X h => ?_⟩
  · obtain ⟨text, rfl, h1, k⟩ := h
    rfl
  · obtain ⟨text, rfl, h1, k⟩ := h
    try simp only [cx_K, cx_Kx]
    fail "z"
    refine w_lcf (cs text) (fun c => Ent.d (.str ⟨#[c]⟩)) (fun _ => true) (fun c => .bool (plainC c)) (wp_name (by simp)) ?_
    fail "z"
    refine ⟨sg_map text, rfl, by rw [← len_cs]; exact Nat.le_trans h1 (by decide), trivial, fun x _ => ?_, ?_⟩
    · fail "z"
      refine ⟨rfl, fun B b => ?_, fun _ R r => ?_⟩
      · fail "z"
      · fail "z"
    · fail "z"
      rw [List.filter_eq_self.mpr (fun _ _ => rfl)]
      have e : (cs text).map (fun c => PyData.bool (plainC c)) = ((cs text).map fun c => plainC c).map PyData.bool := by rw [List.map_map]; rfl
      rw [e]
      refine n_all ?_
      refine q_of k ?_ rfl
      rw [List.all_map]
      rfl
local macro_rules | `(tactic| fail "zk") => `(tactic| ((with_reducible refine k_is_plain  ?_ ?_)))
def c_is_path : ASp := fun es M Q X => ∃ (text : Str), es = [.d (.str text)] ∧ (text.length ≤ 100000) ∧ (Q (.d (.bool (pathB text))) M)
theorem k_is_path {text : Str} {M : Ms} {Q : Ent → Ms → Prop} {X : Xa} (h1 : text.length ≤ 100000) (q : Q (.d (.bool (pathB text))) M) : c_is_path [.d (.str text)] M Q X := ⟨text, rfl, h1, q⟩
theorem sc_is_path : FnScope ["text"] ["text"] (defScope (topS 14)) := ⟨rfl, rfl, rfl, by decide +kernel, rfl, by decide +kernel, by decide +kernel⟩
theorem ca_is_path (T : Top fa fn K mg) : Ca P w K mg base "is_path" (topS 14) 2 ["text"] c_is_path := by
  have sc := sc_is_path
  refine ca_of T 12 23 rfl rfl (fun _ _ _ _ _ _ us hl => match us, hl with | [_], _ => rfl) fun fd F => fn_ok F sc (fun es M Q X h => ?_) fun cdv A outer s H E hr => ⟨_, (pss_cons (ps_if (PW.pt (pw_or (pt_not (kt_tru (K := K) rfl (pe_m1 PySem.F.slot_str_startswith PySem.F.type_str_startswith mt_startswith (pv 0) pe_str) (by intro _; rfl))) (pw_or1 (pt_cmpR op_gtU (pe_callB (kLen (K := K) rfl) (by rfl) (T.free 7 rfl) (by decide +kernel) (pa_cons (pv 0) pa_nil)) (C8.pe_gc rfl (T.int 22 rfl)) (nomark _))))) (pss_one (ps_ret pe_bl)) pss_nil)
      (pss_one (ps_ret (ke_ca (K := K) rfl (ca_consists_of (P := P) (w := w) (base := base) T) hr (by decide) rfl (pa_cons (pv 0) (pa_cons (C8.pe_gc rfl (T.str 21 rfl)) pa_nil)))))), fun es M Q X h => ?_⟩
  · obtain ⟨text, rfl, h1, k⟩ := h
    rfl
  · obtain ⟨text, rfl, h1, k⟩ := h
    try simp only [cx_K, cx_Kx]
    have e0 : Txt.startswith text (Str.ofString "/") = decide ((cs text).head? = some 47) := starts1 text 47
    fail "z"
    all_goals (rw [e0] at *)
    all_goals refine q_of k ?_ rfl
    all_goals simp_all [pathB, len_cs]
    all_goals omega
local macro_rules | `(tactic| fail "zk") => `(tactic| ((with_reducible refine k_is_path  ?_ ?_)))
def c_is_field_name : ASp := fun es M Q X => ∃ (text : Str), es = [.d (.str text)] ∧ (text.length ≤ 100000) ∧ (Q (.d (.bool (nameB text))) M)
theorem k_is_field_name {text : Str} {M : Ms} {Q : Ent → Ms → Prop} {X : Xa} (h1 : text.length ≤ 100000) (q : Q (.d (.bool (nameB text))) M) : c_is_field_name [.d (.str text)] M Q X := ⟨text, rfl, h1, q⟩
theorem sc_is_field_name : FnScope ["text"] ["text"] (defScope (topS 15)) := ⟨rfl, rfl, rfl, by decide +kernel, rfl, by decide +kernel, by decide +kernel⟩
theorem ca_is_field_name (T : Top fa fn K mg) : Ca P w K mg base "is_field_name" (topS 15) 2 ["text"] c_is_field_name := by
  have sc := sc_is_field_name
  refine ca_of T 13 28 rfl rfl (fun _ _ _ _ _ _ us hl => match us, hl with | [_], _ => rfl) fun fd F => fn_ok F sc (fun es M Q X h => ?_) fun cdv A outer s H E hr => ⟨_, (pss_cons (ps_if (PW.pt (pw_or (pt_not (pt_chain op_leU op_leU pe_int (pe_callB (kLen (K := K) rfl) (by rfl) (T.free 7 rfl) (by decide +kernel) (pa_cons (pv 0) pa_nil)) (C8.pe_gc rfl (T.int 26 rfl)))) (pw_or1 (pt_cmpR (kEq (K := K) rfl hr.units) (pv 0) (C8.pe_gc rfl (T.str 27 rfl)) (nomark _))))) (pss_one (ps_ret pe_bl)) pss_nil)
      (pss_one (ps_ret (ke_and (K := K) rfl (pe_cmpR (kIn (K := K) rfl) (pe_ix (kIx (K := K) rfl) (pv 0) pe_int (fun _ _ => rfl)) (C8.pe_gc rfl (T.str 24 rfl)) (by rfl)) (pe_one (ke_ca (K := K) rfl (ca_consists_of (P := P) (w := w) (base := base) T) hr (by decide) rfl (pa_cons (pv 0) (pa_cons (C8.pe_gc rfl (T.str 25 rfl)) pa_nil)))))))), fun es M Q X h => ?_⟩
  · obtain ⟨text, rfl, h1, k⟩ := h
    rfl
  · obtain ⟨text, rfl, h1, k⟩ := h
    try simp only [cx_K, cx_Kx]
    cases hcs : cs text with
    | nil =>
      have h0 : text.length = 0 := by rw [len_cs, hcs]; rfl
      fail "z"
      all_goals first
        | (exfalso; omega)
        | (refine q_of k ?_ rfl; simp [nameB, hcs])
    | cons c0 r0 =>
      have hl : text.length = r0.length + 1 := by rw [len_cs, hcs]; rfl
      have hl2 : (cs text).length = r0.length + 1 := by rw [hcs]; rfl
      fail "z"
      · rename_i hb1 hb2 hb3
        refine q_of k ?_ rfl
        unfold nameB
        rw [decide_eq_true hb3]
        try simp
      · rename_i hb1 hb2 hb3
        refine o_ixS (c := c0) (by rw [sizeLine]; omega) (atI_nat' (by decide) (by show (cs text)[0]? = _; rw [hcs]; rfl)) ?_
        fail "z"
        · rename_i hb4
          refine q_of k ?_ rfl
          have e1 : decide (1 ≤ (cs text).length) = true := decide_eq_true (by omega)
          have e2 : decide ((cs text).length ≤ 30) = true := decide_eq_true (by omega)
          have e3 : headIn text LETTERS = true := by unfold headIn; rw [hcs]; exact decide_eq_true hb4
          unfold nameB
          rw [e1, e2, e3, decide_eq_false hb3]
          try simp
        · rename_i hb4
          refine q_of k ?_ rfl
          have e3 : headIn text LETTERS = false := by unfold headIn; rw [hcs]; exact decide_eq_false hb4
          unfold nameB
          rw [e3, decide_eq_false hb4]
          try simp
      · rename_i hb1 hb2 hb3
        refine q_of k ?_ rfl
        have e2 : decide ((cs text).length ≤ 30) = false := decide_eq_false (by omega)
        unfold nameB
        rw [e2]
        try simp
local macro_rules | `(tactic| fail "zk") => `(tactic| ((with_reducible refine k_is_field_name  ?_ ?_)))
def c_read_number : ASp := fun es M Q X => ∃ (text : Str), es = [.d (.str text)] ∧ (text.length ≤ 100000) ∧ (Q (.d (oi (num text))) M)
theorem k_read_number {text : Str} {M : Ms} {Q : Ent → Ms → Prop} {X : Xa} (h1 : text.length ≤ 100000) (q : Q (.d (oi (num text))) M) : c_read_number [.d (.str text)] M Q X := ⟨text, rfl, h1, q⟩
theorem sc_read_number : FnScope ["text"] ["text"] (defScope (topS 18)) := ⟨rfl, rfl, rfl, by decide +kernel, rfl, by decide +kernel, by decide +kernel⟩
theorem ca_read_number (T : Top fa fn K mg) : Ca P w K mg base "read_number" (topS 18) 2 ["text"] c_read_number := by
  have sc := sc_read_number
  refine ca_of T 14 31 rfl rfl (fun _ _ _ _ _ _ us hl => match us, hl with | [_], _ => rfl) fun fd F => fn_ok F sc (fun es M Q X h => ?_) fun cdv A outer s H E hr => ⟨_, (pss_cons (ps_if (PW.pt (pw_or (pt_not (pt_chain op_leU op_leU pe_int (pe_callB (kLen (K := K) rfl) (by rfl) (T.free 7 rfl) (by decide +kernel) (pa_cons (pv 0) pa_nil)) (C8.pe_gc rfl (T.int 29 rfl)))) (pw_or1 (pt_not (kt_tru (K := K) rfl (ke_ca (K := K) rfl (ca_consists_of (P := P) (w := w) (base := base) T) hr (by decide) rfl (pa_cons (pv 0) (pa_cons (C8.pe_gc rfl (T.str 30 rfl)) pa_nil))) (by intro _; rfl)))))) (pss_one (ps_ret pe_non)) pss_nil)
      (pss_cons (ps_if (PW.pt (pw_and (pt_cmpR (kEq (K := K) rfl hr.units) (pe_ix (kIx (K := K) rfl) (pv 0) pe_int (fun _ _ => rfl)) pe_str (nomark _)) (pw_and1 (pt_cmpR (kNe (K := K) rfl hr.units) (pv 0) pe_str (nomark _))))) (pss_one (ps_ret pe_non)) pss_nil)
      (pss_one (ps_ret (pe_callTy call_intU (by rfl) (T.free 8 rfl) (by decide +kernel) (pa_cons (pv 0) pa_nil)))))), fun es M Q X h => ?_⟩
  · obtain ⟨text, rfl, h1, k⟩ := h
    rfl
  · obtain ⟨text, rfl, h1, k⟩ := h
    try simp only [cx_K, cx_Kx]
    have nf : digB text = false → num text = none := fun h => by unfold num; rw [h]; rfl
    cases hcs : cs text with
    | nil =>
      have h0 : text.length = 0 := by rw [len_cs, hcs]; rfl
      fail "z"
      all_goals first
        | (exfalso; omega)
        | (refine q_of k ?_ rfl; rw [nf (by simp [digB, hcs])])
    | cons c0 r0 =>
      have hl : text.length = r0.length + 1 := by rw [len_cs, hcs]; rfl
      have hl2 : (cs text).length = r0.length + 1 := by rw [hcs]; rfl
      have q2 : decide (1 ≤ (cs text).length) = true := decide_eq_true (by omega)
      fail "z"
      · rename_i hb1 hb2 hb3
        refine q_of k ?_ rfl
        rw [nf (by unfold digB; rw [hb3]; simp)]
        try rfl
      · rename_i hb1 hb2 hb3
        have q3 : decide ((cs text).length ≤ 6) = true := decide_eq_true (by omega)
        refine o_ixS (c := c0) (by rw [sizeLine]; omega) (atI_nat' (by decide) (by show (cs text)[0]? = _; rw [hcs]; rfl)) ?_
        have hh : (cs text).head? = some c0 := by rw [hcs]; rfl
        have e9 : (({ cps := #[c0] } : Str) = Str.ofString "0") ↔ c0 = 48 := str_one_inj (d := 48)
        fail "z"
        · rename_i hb4 hb5
          refine q_of k ?_ rfl
          have h48 : (cs text).head? = some 48 := by rw [hh, e9.mp hb4]
          rw [nf (by unfold digB; rw [h48, decide_eq_false hb5]; simp)]
          try rfl
        · rename_i hb4 hb5
          have hd : digB text = true := by
            unfold digB
            rw [q2, q3, hb3, decide_eq_true (show text = "0" from hb5)]
            try simp
          refine n_intS (dig_int hd) (by omega) ?_
          fail "z"
          refine q_of k ?_ rfl
          unfold num
          rw [if_pos hd]
          try rfl
        · rename_i hb4 hb5
          have hd : digB text = true := by
            unfold digB
            rw [q2, q3, hb3, hh, decide_eq_false (show ¬ some c0 = some 48 from fun q => hb4 (e9.mpr (Option.some.inj q)))]
            try simp
          refine n_intS (dig_int hd) (by omega) ?_
          fail "z"
          refine q_of k ?_ rfl
          unfold num
          rw [if_pos hd]
          try rfl
      · rename_i hb1 hb2 hb3
        refine q_of k ?_ rfl
        have q3 : decide ((cs text).length ≤ 6) = false := decide_eq_false (by omega)
        rw [nf (by unfold digB; rw [q3]; simp)]
        try rfl
local macro_rules | `(tactic| fail "zk") => `(tactic| ((with_reducible refine k_read_number  ?_ ?_)))
def c_l_pick : ASp := fun es M Q X => ∃ (p : Addr) (c : Option Int) (i n : Int) (th : PyData) (m : Nat), es = [.r p, .d th] ∧ M p = some (Bg c i n) ∧ Pk th m ∧ (∀ d i2 n2, Pd th d → Q (.d d) (um M p (Bg c i2 n2)))
theorem k_l_pickI {p : Addr} {c : Option Int} {i n : Int} {ds : List PyData} {xs : List Int} {M : Ms} {Q : Ent → Ms → Prop} {X : Xa} (hx : intsOf ds = some xs) (hl : (Nat.ble 1 xs.length && Nat.ble xs.length 1000) = true) (hB : (xs.all fun j => decide (0 ≤ j) && decide (j ≤ 1000)) = true) (q : ∀ j i2 n2, 0 ≤ j → j ≤ 1000 → Q (.d (.int j)) (um M p (Bg c i2 n2))) : c_l_pick [.r p, .d (.list ds)] (um M p (Bg c i n)) Q X := by
  have e := intsOf_ok hx
  rw [Bool.and_eq_true] at hl
  refine ⟨p, c, i, n, .list ds, ds.length, rfl, um_same, ⟨rfl, ?_, ?_⟩, fun d i2 n2 h => ?_⟩
  · rw [e, List.length_map]; exact Nat.le_of_ble_eq_true hl.1
  · rw [e, List.length_map]; exact Nat.le_trans (Nat.le_of_ble_eq_true hl.2) (by decide)
  · have h' : d ∈ ds := h
    rw [e] at h'
    obtain ⟨j, hj, rfl⟩ := List.mem_map.mp h'
    rw [um_um]
    have hb := List.all_eq_true.mp hB j hj
    simp only [Bool.and_eq_true, decide_eq_true_eq] at hb
    exact q j i2 n2 hb.1 hb.2
theorem k_l_pickT {p : Addr} {c : Option Int} {i n : Int} {ds : List PyData} {xs : List Str} {M : Ms} {Q : Ent → Ms → Prop} {X : Xa} (hx : strsOf ds = some xs) (hl : (Nat.ble 1 xs.length && Nat.ble xs.length 1000) = true) (hB : (xs.all fun s => Nat.ble s.length 20) = true) (q : ∀ j i2 n2, j ∈ xs → j.length ≤ 20 → Q (.d (.str j)) (um M p (Bg c i2 n2))) : c_l_pick [.r p, .d (.list ds)] (um M p (Bg c i n)) Q X := by
  have e := strsOf_ok hx
  rw [Bool.and_eq_true] at hl
  refine ⟨p, c, i, n, .list ds, ds.length, rfl, um_same, ⟨rfl, ?_, ?_⟩, fun d i2 n2 h => ?_⟩
  · rw [e, List.length_map]; exact Nat.le_of_ble_eq_true hl.1
  · rw [e, List.length_map]; exact Nat.le_trans (Nat.le_of_ble_eq_true hl.2) (by decide)
  · have h' : d ∈ ds := h
    rw [e] at h'
    obtain ⟨j, hj, rfl⟩ := List.mem_map.mp h'
    rw [um_um]
    exact q j i2 n2 hj (Nat.le_of_ble_eq_true (List.all_eq_true.mp hB j hj))
theorem k_l_pickS {p : Addr} {c : Option Int} {i n : Int} {s : Str} {M : Ms} {Q : Ent → Ms → Prop} {X : Xa} (h1 : 1 ≤ s.length) (h2 : s.length ≤ 100000) (q : ∀ x i2 n2, x ∈ cs s → Q (.d (.str ⟨#[x]⟩)) (um M p (Bg c i2 n2))) : c_l_pick [.r p, .d (.str s)] (um M p (Bg c i n)) Q X := by
  refine ⟨p, c, i, n, .str s, s.length, rfl, um_same, ⟨rfl, h1, h2⟩, fun d i2 n2 h => ?_⟩
  obtain ⟨x, hx, rfl⟩ := (h : ∃ x, x ∈ cs s ∧ d = .str ⟨#[x]⟩)
  rw [um_um]
  exact q x i2 n2 hx
theorem sc_l_pick : FnScope ["_law_bag_here", "_law_things"] ["_law_bag_here", "_law_things"] (defScope (topS 23)) := ⟨rfl, rfl, rfl, by decide +kernel, rfl, by decide +kernel, by decide +kernel⟩
theorem ca_l_pick (T : Top fa fn K mg) : Ca P w K mg base "_law_pick" (topS 23) 2 ["_law_bag_here", "_law_things"] c_l_pick := by
  have sc := sc_l_pick
  refine ca_of T 15 32 rfl rfl (fun _ _ _ _ _ _ us hl => match us, hl with | [_, _], _ => rfl) fun fd F => fn_ok F sc (fun es M Q X h => ?_) fun cdv A outer s H E hr => ⟨_, (pss_one (ps_ret (pe_ix (kIx (K := K) rfl) (pv 1) (ke_ca (K := K) rfl (ca_l_draw (P := P) (w := w) (base := base) T) hr (by decide) rfl (pa_cons (pv 0) (pa_cons (pe_callB (kLen (K := K) rfl) (by rfl) (T.free 7 rfl) (by decide +kernel) (pa_cons (pv 1) pa_nil)) pa_nil))) (fun _ _ => rfl)))), fun es M Q X h => ?_⟩
  · obtain ⟨p, c, i, n, th, m, rfl, h1, h2, k⟩ := h
    rfl
  · obtain ⟨p, c, i, n, th, m, rfl, h1, h2, k⟩ := h
    try simp only [cx_K, cx_Kx]
    have e0 : M = um M p (Bg c i n) := (um_id h1).symm
    cases th with
    | list ds =>
      obtain ⟨rfl, h3, h4⟩ := (h2 : m = ds.length ∧ 1 ≤ m ∧ m ≤ 100000)
      fail "z"
      · rename_i d i2 n2 q1 q2 q3
        have hd : d.toNat < ds.length := by
          by_cases h : 2 ≤ (ds.length : Int)
          · have := q2 h
            omega
          · have := q3 (by omega)
            omega
        refine o_ixL (d := ds[d.toNat]) (atI_nat' q1 (List.getElem?_eq_getElem hd)) ?_
        fail "z"
        exact k _ _ _ (List.getElem_mem hd)
    | str s =>
      obtain ⟨rfl, h3, h4⟩ := (h2 : m = s.length ∧ 1 ≤ m ∧ m ≤ 100000)
      fail "z"
      · rename_i d i2 n2 q1 q2 q3
        have hd : d.toNat < (cs s).length := by
          rw [← len_cs]
          by_cases h : 2 ≤ (s.length : Int)
          · have := q2 h
            omega
          · have := q3 (by omega)
            omega
        refine o_ixS (c := (cs s)[d.toNat]) (Nat.le_trans h4 (by decide)) (atI_nat' q1 (List.getElem?_eq_getElem hd)) ?_
        fail "z"
        exact k _ _ _ ⟨_, List.getElem_mem hd, rfl⟩
    | _ => exact h2.elim
local macro_rules | `(tactic| fail "zk") => `(tactic| ((with_reducible refine k_l_pickI (xs := ?xs) ?hx ?hl ?hB ?_); (case hx => rfl); (case hl => rfl); (case hB => decide)))
local macro_rules | `(tactic| fail "zk") => `(tactic| ((with_reducible refine k_l_pickT (xs := ?xs) ?hx ?hl ?hB ?_); (case hx => rfl); (case hl => rfl); (case hB => decide +kernel)))
local macro_rules | `(tactic| fail "zk") => `(tactic| with_reducible refine k_l_pickS ?_ ?_ ?_)
def c_l_most : ASp := fun es M Q X => ∃ (p : Addr), ∃ (small : Int), ∃ (large : Int), ∃ (c : Option Int), ∃ (i : Int), ∃ (n : Int), es = [.r p, .d (.int small), .d (.int large)] ∧ (M p = some (Bg c i n)) ∧ (∀ r i2 n2, (r = small ∨ r = large) → Q (.d (.int r)) (um M p (Bg c i2 n2)))
theorem k_l_most {p : Addr} {small : Int} {large : Int} {c : Option Int} {i : Int} {n : Int} {M : Ms} {Q : Ent → Ms → Prop} {X : Xa} (h1 : M p = some (Bg c i n)) (q : ∀ r i2 n2, (r = small ∨ r = large) → Q (.d (.int r)) (um M p (Bg c i2 n2))) : c_l_most [.r p, .d (.int small), .d (.int large)] M Q X := ⟨p, small, large, c, i, n, rfl, h1, q⟩
theorem k2_l_most {p : Addr} {small : Int} {large : Int} {c : Option Int} {i : Int} {n : Int} {M : Ms} {Q : Ent → Ms → Prop} {X : Xa}  (q : ∀ r i2 n2, (r = small ∨ r = large) → Q (.d (.int r)) (um M p (Bg c i2 n2))) : c_l_most [.r p, .d (.int small), .d (.int large)] (um M p (Bg c i n)) Q X := k_l_most (c := c) (i := i) (n := n) um_same  (by simpa only [um_um] using q)
theorem sc_l_most : FnScope ["_law_bag_here", "_law_small", "_law_large"] ["_law_bag_here", "_law_small", "_law_large"] (defScope (topS 24)) := ⟨rfl, rfl, rfl, by decide +kernel, rfl, by decide +kernel, by decide +kernel⟩
theorem ca_l_most (T : Top fa fn K mg) : Ca P w K mg base "_law_most" (topS 24) 2 ["_law_bag_here", "_law_small", "_law_large"] c_l_most := by
  have sc := sc_l_most
  refine ca_of T 16 33 rfl rfl (fun _ _ _ _ _ _ us hl => match us, hl with | [_, _, _], _ => rfl) fun fd F => fn_ok F sc (fun es M Q X h => ?_) fun cdv A outer s H E hr => ⟨_, (pss_cons (ps_if (pt_cmpR (kEq (K := K) rfl hr.units) (ke_ca (K := K) rfl (ca_l_draw (P := P) (w := w) (base := base) T) hr (by decide) rfl (pa_cons (pv 0) (pa_cons pe_int pa_nil))) pe_int (nomark _)) (pss_one (ps_ret (pv 2))) pss_nil)
      (pss_one (ps_ret (pv 1)))), fun es M Q X h => ?_⟩
  · obtain ⟨p, small, large, c, i, n, rfl, h1, k⟩ := h
    rfl
  · obtain ⟨p, small, large, c, i, n, rfl, h1, k⟩ := h
    try simp only [cx_K, cx_Kx]
    fail "z"
    · exact k _ _ _ (.inr rfl)
    · exact k _ _ _ (.inl rfl)
local macro_rules | `(tactic| fail "zk") => `(tactic| ((with_reducible refine k_l_most (c := ?c) (i := ?i) (n := ?n) ?hh0 ?_) ; (case hh0 => fail "zlook")))
local macro_rules | `(tactic| fail "zk") => `(tactic| with_reducible refine k2_l_most  ?_)
def c_l_word : ASp := fun es M Q X => ∃ (p : Addr), ∃ (signs : Str), ∃ (least : Int), ∃ (most : Int), ∃ (c : Option Int), ∃ (i : Int), ∃ (n : Int), es = [.r p, .d (.str signs), .d (.int least), .d (.int most)] ∧ (M p = some (Bg c i n)) ∧ (1 ≤ signs.length) ∧ (signs.length ≤ 1000) ∧ (0 ≤ least) ∧ (least ≤ most) ∧ (most ≤ 1000) ∧ (∀ s i2 n2, (s.length : Int) ≤ most → Q (.d (.str s)) (um M p (Bg c i2 n2)))
theorem k_l_word {p : Addr} {signs : Str} {least : Int} {most : Int} {c : Option Int} {i : Int} {n : Int} {M : Ms} {Q : Ent → Ms → Prop} {X : Xa} (h1 : M p = some (Bg c i n)) (h2 : 1 ≤ signs.length) (h3 : signs.length ≤ 1000) (h4 : 0 ≤ least) (h5 : least ≤ most) (h6 : most ≤ 1000) (q : ∀ s i2 n2, (s.length : Int) ≤ most → Q (.d (.str s)) (um M p (Bg c i2 n2))) : c_l_word [.r p, .d (.str signs), .d (.int least), .d (.int most)] M Q X := ⟨p, signs, least, most, c, i, n, rfl, h1, h2, h3, h4, h5, h6, q⟩
theorem k2_l_word {p : Addr} {signs : Str} {least : Int} {most : Int} {c : Option Int} {i : Int} {n : Int} {M : Ms} {Q : Ent → Ms → Prop} {X : Xa} (h2 : 1 ≤ signs.length) (h3 : signs.length ≤ 1000) (h4 : 0 ≤ least) (h5 : least ≤ most) (h6 : most ≤ 1000) (q : ∀ s i2 n2, (s.length : Int) ≤ most → Q (.d (.str s)) (um M p (Bg c i2 n2))) : c_l_word [.r p, .d (.str signs), .d (.int least), .d (.int most)] (um M p (Bg c i n)) Q X := k_l_word (c := c) (i := i) (n := n) um_same h2 h3 h4 h5 h6 (by simpa only [um_um] using q)
theorem sc_l_word : FnScope ["_law_bag_here", "_law_signs_here", "_law_least", "_law_most_here", "_law_size", "_law_k"] ["_law_bag_here", "_law_signs_here", "_law_least", "_law_most_here"] (defScope (topS 25)) := ⟨rfl, rfl, rfl, by decide +kernel, rfl, by decide +kernel, by decide +kernel⟩
theorem ca_l_word (T : Top fa fn K mg) : Ca P w K mg base "_law_word" (topS 25) 2 ["_law_bag_here", "_law_signs_here", "_law_least", "_law_most_here"] c_l_word := by
  have sc := sc_l_word
  refine ca_of T 17 35 rfl rfl (fun _ _ _ _ _ _ us hl => match us, hl with | [_, _, _, _], _ => rfl) fun fd F => fn_ok F sc (fun es M Q X h => ?_) fun cdv A outer s H E hr => ⟨_, (pss_cons (ps_set (i := 4) sc.nd rfl (Or.inl rfl) (pe_op (kAdd (K := K) rfl) (pv 2) (ke_ca (K := K) rfl (ca_l_draw (P := P) (w := w) (base := base) T) hr (by decide) rfl (pa_cons (pv 0) (pa_cons (pe_op (kAdd (K := K) rfl) (pe_op op_sub (pv 3) (pv 2)) pe_int) pa_nil)))))
      (pss_one (ps_ret (pe_m1 PySem.F.slot_str_join PySem.F.type_str_join (kJoin (K := K) rfl) pe_str (pe_lc (own := [("_law_k", 5)]) (g := (gName 5)) (tt := tYes) rfl sc.nd (pi_range1 (by rfl) (T.free 34 rfl) (pa_cons (pv 4) pa_nil)) (blkOk_by (own := [("_law_k", 5)]) (N := ["_law_bag_here", "_law_signs_here", "_law_least", "_law_most_here", "_law_size", "_law_k"]) (sc := defScope (topS 25)) (by decide +kernel)) (fun _ _ _ _ _ => (pg_name (i := 5) sc.nd rfl (Or.inl rfl))) (fun _ _ _ _ _ => pts_nil) (fun _ _ _ _ _ => (pe_ix (kIx (K := K) rfl) (pv 1) (ke_ca (K := K) rfl (ca_l_draw (P := P) (w := w) (base := base) T) hr (by decide) rfl (pa_cons (pv 0) (pa_cons (pe_callB (kLen (K := K) rfl) (by rfl) (T.free 7 rfl) (by decide +kernel) (pa_cons (pv 1) pa_nil)) pa_nil))) (fun _ _ => rfl)))))))), fun es M Q X h => ?_⟩
  · obtain ⟨p, signs, least, most, c, i, n, rfl, h1, h2, h3, h4, h5, h6, k⟩ := h
    rfl
  · obtain ⟨p, signs, least, most, c, i, n, rfl, h1, h2, h3, h4, h5, h6, k⟩ := h
    try simp only [cx_K, cx_Kx]
    have e0 : M = um M p (Bg c i n) := (um_id h1).symm
    fail "z"
    rename_i d i2 n2 q1 q2 q3
    have hd : least + d ≤ most := by
      by_cases h : 2 ≤ most - least + 1
      · have := q2 h
        omega
      · have := q3 (by omega)
        omega
    refine w_lc (wp_name (by simp)) ?_
    fail "z"
    refine ⟨fun t ds M' => ∃ i3 n3 ys, M' = um M p (Bg c i3 n3) ∧ ds = ys.map PyData.str ∧ ys.length = t ∧ ∀ y ∈ ys, y.length = 1, ?_, ⟨_, _, [], rfl, rfl, rfl, by simp⟩, fun _ _ _ _ _ => trivial, ?_, ?_⟩
    · rw [rgE_len]
      exact Nat.le_trans (show (least + d).toNat ≤ 1000 by omega) (by decide)
    · rintro t e ds M' he ⟨i3, n3, ys, rfl, rfl, hl, h1'⟩
      obtain ⟨ht, rfl⟩ := rgE_get he
      fail "z"
      rename_i d' i4 n4 q1' q2' q3'
      have hd' : d'.toNat < (cs signs).length := by
        rw [← len_cs]
        by_cases h : 2 ≤ (signs.length : Int)
        · have := q2' h
          omega
        · have := q3' (by omega)
          omega
      refine o_ixS (c := (cs signs)[d'.toNat]) (Nat.le_trans h3 (by decide)) (atI_nat' q1' (List.getElem?_eq_getElem hd')) ?_
      refine ⟨_, rfl, i4, n4, ys ++ [⟨#[(cs signs)[d'.toNat]]⟩], rfl, by rw [List.map_append]; rfl, by simp [hl], ?_⟩
      intro y hy
      rcases List.mem_append.mp hy with hy | hy
      · exact h1' y hy
      · rw [List.mem_singleton] at hy
        rw [hy]
        rfl
    · rintro ds M' _ ⟨i3, n3, ys, rfl, rfl, hl, h1'⟩
      rw [rgE_len] at hl
      fail "z"
      · rw [sum_ones ys h1', hl]
        show (least + d).toNat + (least + d).toNat * 0 ≤ 16777216
        omega
      · refine k _ _ _ ?_
        rw [join_len1 (by decide +kernel) ys h1', hl]
        omega
local macro_rules | `(tactic| fail "zk") => `(tactic| ((with_reducible refine k_l_word (c := ?c) (i := ?i) (n := ?n) ?hh0 ?_ ?_ ?_ ?_ ?_ ?_) ; (case hh0 => fail "zlook")))
local macro_rules | `(tactic| fail "zk") => `(tactic| with_reducible refine k2_l_word ?_ ?_ ?_ ?_ ?_ ?_)
def c_l_is_path : ASp := fun es M Q X => ∃ (text : Str), es = [.d (.str text)] ∧ (text.length ≤ 100000) ∧ (Q (.d (.bool (pathB text))) M)
theorem k_l_is_path {text : Str} {M : Ms} {Q : Ent → Ms → Prop} {X : Xa} (h1 : text.length ≤ 100000) (q : Q (.d (.bool (pathB text))) M) : c_l_is_path [.d (.str text)] M Q X := ⟨text, rfl, h1, q⟩
theorem sc_l_is_path : FnScope ["_law_text_here", "_law_signs_here"] ["_law_text_here"] (defScope (topS 29)) := ⟨rfl, rfl, rfl, by decide +kernel, rfl, by decide +kernel, by decide +kernel⟩
theorem ca_l_is_path (T : Top fa fn K mg) : Ca P w K mg base "_law_is_path" (topS 29) 2 ["_law_text_here"] c_l_is_path := by
  have sc := sc_l_is_path
  refine ca_of T 18 36 rfl rfl (fun _ _ _ _ _ _ us hl => match us, hl with | [_], _ => rfl) fun fd F => fn_ok F sc (fun es M Q X h => ?_) fun cdv A outer s H E hr => ⟨_, (pss_cons (ps_set (i := 1) sc.nd rfl (Or.inl rfl) (pe_op (kAdd (K := K) rfl) (ke_ca0 (K := K) rfl (ca_l_letters (P := P) (w := w) (base := base) T) hr (by decide) rfl) pe_str))
      (pss_one (ps_ret (ke_and (K := K) rfl (pe_chain op_leU op_leU pe_int (pe_callB (kLen (K := K) rfl) (by rfl) (T.free 7 rfl) (by decide +kernel) (pa_cons (pv 0) pa_nil)) pe_int) (ke_and (K := K) rfl (pe_cmpR (kEq (K := K) rfl hr.units) (pe_slice (kSl (K := K) rfl) (pv 0) po_none (po_some pe_int)) pe_str (nomark _)) (pe_one (ke_ca (K := K) rfl (ca_l_all_in (P := P) (w := w) (base := base) T) hr (by decide) rfl (pa_cons (pv 0) (pa_cons (pv 1) pa_nil))))))))), fun es M Q X h => ?_⟩
  · obtain ⟨text, rfl, h1, k⟩ := h
    rfl
  · obtain ⟨text, rfl, h1, k⟩ := h
    try simp only [cx_K, cx_Kx]
    have e4 : LETTERS ++ Str.ofString "0123456789/-." = PATHS := by decide +kernel
    have e5 : (cutS text none (some 1) = Str.ofString "/") ↔ (cs text).head? = some 47 := head1_eq text 47
    have l1 := len_cs text
    fail "z"
    all_goals refine q_of k ?_ rfl
    all_goals unfold pathB
    · rename_i hb1 hb2 hb3
      rw [decide_eq_true (e5.mp hb3), decide_eq_true (show (cs text).length ≤ 60 by omega), e4]
      try rfl
    · rename_i hb1 hb2 hb3
      rw [decide_eq_false (fun q => hb3 (e5.mpr q)), decide_eq_false hb3]
      try rfl
    · rename_i hb1 hb2
      rw [decide_eq_false (show ¬ (cs text).length ≤ 60 by omega), decide_eq_false hb2]
      try simp
    · rename_i hb1 hb2
      have : (cs text).head? = none := by
        rw [List.head?_eq_none_iff]
        exact List.eq_nil_of_length_eq_zero (by omega)
      rw [this]
      try simp
local macro_rules | `(tactic| fail "zk") => `(tactic| ((with_reducible refine k_l_is_path  ?_ ?_)))
def c_l_is_name : ASp := fun es M Q X => ∃ (text : Str), es = [.d (.str text)] ∧ (text.length ≤ 100000) ∧ (Q (.d (.bool (nameB text))) M)
theorem k_l_is_name {text : Str} {M : Ms} {Q : Ent → Ms → Prop} {X : Xa} (h1 : text.length ≤ 100000) (q : Q (.d (.bool (nameB text))) M) : c_l_is_name [.d (.str text)] M Q X := ⟨text, rfl, h1, q⟩
theorem sc_l_is_name : FnScope ["_law_text_here"] ["_law_text_here"] (defScope (topS 30)) := ⟨rfl, rfl, rfl, by decide +kernel, rfl, by decide +kernel, by decide +kernel⟩
theorem ca_l_is_name (T : Top fa fn K mg) : Ca P w K mg base "_law_is_name" (topS 30) 2 ["_law_text_here"] c_l_is_name := by
  have sc := sc_l_is_name
  refine ca_of T 19 37 rfl rfl (fun _ _ _ _ _ _ us hl => match us, hl with | [_], _ => rfl) fun fd F => fn_ok F sc (fun es M Q X h => ?_) fun cdv A outer s H E hr => ⟨_, (pss_cons (ps_if (PW.pt (pw_or (pt_cmpR (kEq (K := K) rfl hr.units) (pv 0) pe_str (nomark _)) (pw_or1 (pt_not (pt_chain op_leU op_leU pe_int (pe_callB (kLen (K := K) rfl) (by rfl) (T.free 7 rfl) (by decide +kernel) (pa_cons (pv 0) pa_nil)) pe_int))))) (pss_one (ps_ret pe_bl)) pss_nil)
      (pss_one (ps_ret (ke_and (K := K) rfl (pe_cmpR (kIn (K := K) rfl) (pe_slice (kSl (K := K) rfl) (pv 0) po_none (po_some pe_int)) (ke_ca0 (K := K) rfl (ca_l_letters (P := P) (w := w) (base := base) T) hr (by decide) rfl) (by rfl)) (pe_one (ke_ca (K := K) rfl (ca_l_all_in (P := P) (w := w) (base := base) T) hr (by decide) rfl (pa_cons (pv 0) (pa_cons (pe_op (kAdd (K := K) rfl) (ke_ca0 (K := K) rfl (ca_l_letters (P := P) (w := w) (base := base) T) hr (by decide) rfl) pe_str) pa_nil)))))))), fun es M Q X h => ?_⟩
  · obtain ⟨text, rfl, h1, k⟩ := h
    rfl
  · obtain ⟨text, rfl, h1, k⟩ := h
    try simp only [cx_K, cx_Kx]
    cases hcs : cs text with
    | nil =>
      have h0 : text.length = 0 := by rw [len_cs, hcs]; rfl
      fail "z"
      all_goals first
        | (exfalso; omega)
        | (refine q_of k ?_ rfl; simp [nameB, hcs])
    | cons c0 r0 =>
      have hl : text.length = r0.length + 1 := by rw [len_cs, hcs]; rfl
      have hl2 : (cs text).length = r0.length + 1 := by rw [hcs]; rfl
      have hcut : cutS text none (some 1) = ⟨#[c0]⟩ := (head1_eq text c0).mpr (by rw [hcs]; rfl)
      fail "z"
      · rename_i hb1 hb2 hb3
        refine q_of k ?_ rfl
        have e2 : decide ((cs text).length ≤ 30) = false := decide_eq_false (by omega)
        unfold nameB
        rw [e2]
        try simp
      · rename_i hb1 hb2 hb3
        rw [hcut]
        fail "z"
        · rename_i hb4
          refine q_of k ?_ rfl
          have e1 : decide (1 ≤ (cs text).length) = true := decide_eq_true (by omega)
          have e2 : decide ((cs text).length ≤ 30) = true := decide_eq_true (by omega)
          have e3 : headIn text LETTERS = true := by unfold headIn; rw [hcs]; exact decide_eq_true hb4
          have e4 : LETTERS ++ Str.ofString "0123456789-" = NAMES := by decide +kernel
          unfold nameB
          rw [e1, e2, e3, e4, decide_eq_false hb1]
          try simp
        · rename_i hb4
          refine q_of k ?_ rfl
          have e3 : headIn text LETTERS = false := by unfold headIn; rw [hcs]; exact decide_eq_false hb4
          unfold nameB
          rw [e3, decide_eq_false hb4]
          try simp
      · rename_i hb1 hb2
        refine q_of k ?_ rfl
        unfold nameB
        rw [decide_eq_true hb1]
        try simp
local macro_rules | `(tactic| fail "zk") => `(tactic| ((with_reducible refine k_l_is_name  ?_ ?_)))
def c_l_is_value : ASp := fun es M Q X => ∃ (text : Str), es = [.d (.str text)] ∧ (text.length ≤ 100000) ∧ (Q (.d (.bool (valueB text))) M)
theorem k_l_is_value {text : Str} {M : Ms} {Q : Ent → Ms → Prop} {X : Xa} (h1 : text.length ≤ 100000) (q : Q (.d (.bool (valueB text))) M) : c_l_is_value [.d (.str text)] M Q X := ⟨text, rfl, h1, q⟩
theorem sc_l_is_value : FnScope ["_law_text_here"] ["_law_text_here"] (defScope (topS 31)) := ⟨rfl, rfl, rfl, by decide +kernel, rfl, by decide +kernel, by decide +kernel⟩
theorem ca_l_is_value (T : Top fa fn K mg) : Ca P w K mg base "_law_is_value" (topS 31) 2 ["_law_text_here"] c_l_is_value := by
  have sc := sc_l_is_value
  refine ca_of T 20 38 rfl rfl (fun _ _ _ _ _ _ us hl => match us, hl with | [_], _ => rfl) fun fd F => fn_ok F sc (fun es M Q X h => ?_) fun cdv A outer s H E hr => ⟨_, (pss_one (ps_ret (ke_and (K := K) rfl (pe_cmpR op_leU (pe_callB (kLen (K := K) rfl) (by rfl) (T.free 7 rfl) (by decide +kernel) (pa_cons (pv 0) pa_nil)) pe_int (nomark _)) (ke_and (K := K) rfl (pe_cmpR (kEq (K := K) rfl hr.units) (pv 0) (pe_m1 PySem.F.slot_str_strip PySem.F.type_str_strip mt_stripChars (pv 0) pe_str) (nomark _)) (pe_one (ke_ca (K := K) rfl (ca_l_all_in (P := P) (w := w) (base := base) T) hr (by decide) rfl (pa_cons (pv 0) (pa_cons (ke_ca0 (K := K) rfl (ca_l_signs (P := P) (w := w) (base := base) T) hr (by decide) rfl) pa_nil)))))))), fun es M Q X h => ?_⟩
  · obtain ⟨text, rfl, h1, k⟩ := h
    rfl
  · obtain ⟨text, rfl, h1, k⟩ := h
    try simp only [cx_K, cx_Kx]
    have l1 := len_cs text
    fail "z"
    all_goals refine q_of k ?_ rfl
    all_goals unfold valueB
    · rename_i hb1 hb2
      rw [decide_eq_true (show (cs text).length ≤ 200 by omega), decide_eq_true (show text = Txt.stripChars text " " from hb2)]
      try simp
    · rename_i hb1 hb2
      rw [decide_eq_false (show ¬ text = Txt.stripChars text " " from hb2)]
      try simp
    · rename_i hb1
      rw [decide_eq_false (show ¬ (cs text).length ≤ 200 by omega), decide_eq_false hb1]
      try rfl
local macro_rules | `(tactic| fail "zk") => `(tactic| ((with_reducible refine k_l_is_value  ?_ ?_)))
def c_l_digits : ASp := fun es M Q X => ∃ (text : Str), es = [.d (.str text)] ∧ (text.length ≤ 100000) ∧ (Q (.d (.bool (digB text))) M)
theorem k_l_digits {text : Str} {M : Ms} {Q : Ent → Ms → Prop} {X : Xa} (h1 : text.length ≤ 100000) (q : Q (.d (.bool (digB text))) M) : c_l_digits [.d (.str text)] M Q X := ⟨text, rfl, h1, q⟩
theorem sc_l_digits : FnScope ["_law_text_here"] ["_law_text_here"] (defScope (topS 32)) := ⟨rfl, rfl, rfl, by decide +kernel, rfl, by decide +kernel, by decide +kernel⟩
theorem ca_l_digits (T : Top fa fn K mg) : Ca P w K mg base "_law_digits" (topS 32) 2 ["_law_text_here"] c_l_digits := by
  have sc := sc_l_digits
  refine ca_of T 21 39 rfl rfl (fun _ _ _ _ _ _ us hl => match us, hl with | [_], _ => rfl) fun fd F => fn_ok F sc (fun es M Q X h => ?_) fun cdv A outer s H E hr => ⟨_, (pss_cons (ps_if (PW.pt (pw_or (pt_not (pt_chain op_leU op_leU pe_int (pe_callB (kLen (K := K) rfl) (by rfl) (T.free 7 rfl) (by decide +kernel) (pa_cons (pv 0) pa_nil)) pe_int)) (pw_or1 (pt_not (kt_tru (K := K) rfl (ke_ca (K := K) rfl (ca_l_all_in (P := P) (w := w) (base := base) T) hr (by decide) rfl (pa_cons (pv 0) (pa_cons pe_str pa_nil))) (by intro _; rfl)))))) (pss_one (ps_ret pe_bl)) pss_nil)
      (pss_one (ps_ret (ke_or (K := K) rfl (pe_cmpR (kEq (K := K) rfl hr.units) (pe_callB (kLen (K := K) rfl) (by rfl) (T.free 7 rfl) (by decide +kernel) (pa_cons (pv 0) pa_nil)) pe_int (nomark _)) (pe_one (pe_cmpR (kNe (K := K) rfl hr.units) (pe_slice (kSl (K := K) rfl) (pv 0) po_none (po_some pe_int)) pe_str (nomark _))))))), fun es M Q X h => ?_⟩
  · obtain ⟨text, rfl, h1, k⟩ := h
    rfl
  · obtain ⟨text, rfl, h1, k⟩ := h
    try simp only [cx_K, cx_Kx]
    have e5 : (cutS text none (some 1) = Str.ofString "0") ↔ (cs text).head? = some 48 := head1_eq text 48
    have e6 : cs ("0" : Str) = [48] := by decide +kernel
    have e7 : text.length = 1 → ((cs text).head? = some 48 ↔ text = "0") := by
      intro h
      rw [len_cs] at h
      constructor
      · intro q
        refine cs_inj ?_
        rw [e6]
        cases hc : cs text with
        | nil => rw [hc] at h; cases h
        | cons c r =>
          rw [hc] at h q
          have : r = [] := List.eq_nil_of_length_eq_zero (by simpa using h)
          rw [this, Option.some.inj q]
      · intro q
        rw [q, e6]
        try rfl
    have e8 : text.length ≠ 1 → ¬ text = "0" := by
      intro h q
      apply h
      rw [q]
      decide +kernel
    have l1 := len_cs text
    fail "z"
    all_goals refine q_of k ?_ rfl
    all_goals unfold digB
    all_goals simp only [e5] at *
    · rename_i hb1 hb2 hb3
      rw [show allIn text DIGITS = false from hb3]
      try simp
    · rename_i hb1 hb2 hb3 hb4
      have q1 : ¬ text = "0" := e8 (by omega)
      have q2 : decide (1 ≤ (cs text).length) = true := decide_eq_true (by rw [← len_cs]; omega)
      have q3 : decide ((cs text).length ≤ 6) = true := decide_eq_true (by rw [← len_cs]; omega)
      rw [q2, q3, decide_eq_false q1, hb3]
      try simp
    · rename_i hb1 hb2 hb3 hb4
      have q1 := e7 (by omega)
      have q2 : decide (1 ≤ (cs text).length) = true := decide_eq_true (by rw [← len_cs]; omega)
      have q3 : decide ((cs text).length ≤ 6) = true := decide_eq_true (by rw [← len_cs]; omega)
      rw [q2, q3, hb3, decide_eq_true hb4]
      by_cases h : text = "0"
      · simp [h]
      · have h' : ¬ (cs text).head? = some 48 := fun q => h (q1.mp q)
        rw [decide_eq_false h, decide_eq_false h']
        try simp
    · rename_i hb1 hb2 hb3
      have q3 : decide ((cs text).length ≤ 6) = false := decide_eq_false (by rw [← len_cs]; omega)
      rw [q3]
      try simp
    · rename_i hb1 hb2 hb3
      have q3 : decide (1 ≤ (cs text).length) = false := decide_eq_false (by rw [← len_cs]; omega)
      rw [q3]
      try simp
local macro_rules | `(tactic| fail "zk") => `(tactic| ((with_reducible refine k_l_digits  ?_ ?_)))
def c_is_value : ASp := fun es M Q X => ∃ (text : Str), es = [.d (.str text)] ∧ (text.length ≤ 100000) ∧ (Q (.d (.bool (valueB text))) M)
theorem k_is_value {text : Str} {M : Ms} {Q : Ent → Ms → Prop} {X : Xa} (h1 : text.length ≤ 100000) (q : Q (.d (.bool (valueB text))) M) : c_is_value [.d (.str text)] M Q X := ⟨text, rfl, h1, q⟩
theorem sc_is_value : FnScope ["text"] ["text"] (defScope (topS 16)) := ⟨rfl, rfl, rfl, by decide +kernel, rfl, by decide +kernel, by decide +kernel⟩
theorem ca_is_value (T : Top fa fn K mg) : Ca P w K mg base "is_value" (topS 16) 3 ["text"] c_is_value := by
  have sc := sc_is_value
  refine ca_of T 22 41 rfl rfl (fun _ _ _ _ _ _ us hl => match us, hl with | [_], _ => rfl) fun fd F => fn_ok F sc (fun es M Q X h => ?_) fun cdv A outer s H E hr => ⟨_, (pss_one (ps_ret (ke_and (K := K) rfl (pe_cmpR op_leU (pe_callB (kLen (K := K) rfl) (by rfl) (T.free 7 rfl) (by decide +kernel) (pa_cons (pv 0) pa_nil)) (C8.pe_gc rfl (T.int 40 rfl)) (nomark _)) (ke_and (K := K) rfl (ke_ca (K := K) rfl (ca_is_plain (P := P) (w := w) (base := base) T) hr (by decide) rfl (pa_cons (pv 0) pa_nil)) (pe_one (pe_cmpR (kEq (K := K) rfl hr.units) (pv 0) (pe_m1 PySem.F.slot_str_strip PySem.F.type_str_strip mt_stripChars (pv 0) pe_str) (nomark _))))))), fun es M Q X h => ?_⟩
  · obtain ⟨text, rfl, h1, k⟩ := h
    rfl
  · obtain ⟨text, rfl, h1, k⟩ := h
    try simp only [cx_K, cx_Kx]
    have e0 := plain_all text
    have l1 := len_cs text
    fail "z"
    all_goals refine q_of k ?_ rfl
    all_goals unfold valueB
    all_goals rw [← e0]
    · rename_i hb1 hb2
      rw [hb2, decide_eq_true (show (cs text).length ≤ 200 by omega)]
      try rfl
    · rename_i hb1 hb2
      rw [hb2]
      try simp
    · rename_i hb1
      rw [decide_eq_false (show ¬ (cs text).length ≤ 200 by omega), decide_eq_false hb1]
      try rfl
local macro_rules | `(tactic| fail "zk") => `(tactic| ((with_reducible refine k_is_value  ?_ ?_)))
def c_read_reading : ASp := fun es M Q X => ∃ (text : Str), es = [.d (.str text)] ∧ (text.length ≤ 100000) ∧ (Q (.d (oi (rd text))) M)
theorem k_read_reading {text : Str} {M : Ms} {Q : Ent → Ms → Prop} {X : Xa} (h1 : text.length ≤ 100000) (q : Q (.d (oi (rd text))) M) : c_read_reading [.d (.str text)] M Q X := ⟨text, rfl, h1, q⟩
theorem sc_read_reading : FnScope ["text", "number"] ["text"] (defScope (topS 19)) := ⟨rfl, rfl, rfl, by decide +kernel, rfl, by decide +kernel, by decide +kernel⟩
theorem ca_read_reading (T : Top fa fn K mg) : Ca P w K mg base "read_reading" (topS 19) 3 ["text"] c_read_reading := by
  have sc := sc_read_reading
  refine ca_of T 23 42 rfl rfl (fun _ _ _ _ _ _ us hl => match us, hl with | [_], _ => rfl) fun fd F => fn_ok F sc (fun es M Q X h => ?_) fun cdv A outer s H E hr => ⟨_, (pss_cons (ps_if (pt_not (kt_tru (K := K) rfl (pe_m1 PySem.F.slot_str_startswith PySem.F.type_str_startswith mt_startswith (pv 0) pe_str) (by intro _; rfl))) (pss_one (ps_ret (ke_ca (K := K) rfl (ca_read_number (P := P) (w := w) (base := base) T) hr (by decide) rfl (pa_cons (pv 0) pa_nil)))) pss_nil)
      (pss_cons (ps_set (i := 1) sc.nd rfl (Or.inl rfl) (ke_ca (K := K) rfl (ca_read_number (P := P) (w := w) (base := base) T) hr (by decide) rfl (pa_cons (pe_slice (kSl (K := K) rfl) (pv 0) (po_some pe_int) po_none) pa_nil)))
      (pss_cons (ps_if (PW.pt (pw_or (pt_cmpR op_isN1 (pv 1) pe_non (nomark _)) (pw_or1 (pt_cmpR (kEq (K := K) rfl hr.units) (pv 1) pe_int (nomark _))))) (pss_one (ps_ret pe_non)) pss_nil)
      (pss_one (ps_ret (pe_un un_neg (pv 1))))))), fun es M Q X h => ?_⟩
  · obtain ⟨text, rfl, h1, k⟩ := h
    rfl
  · obtain ⟨text, rfl, h1, k⟩ := h
    try simp only [cx_K, cx_Kx]
    have e0 : Txt.startswith text (Str.ofString "-") = decide ((cs text).head? = some 45) := starts1 text 45
    have hcl := cut_len text (some 1) none
    cases hn : num (cutS text (some 1) none) with
    | none =>
      fail "z"
      all_goals first
        | (rename_i hb hb2 hb3
           rw [e0, decide_eq_true_eq] at hb
           refine q_of k ?_ rfl
           unfold rd
           rw [if_pos hb, hn])
        | (rename_i hb
           rw [e0, decide_eq_false_iff_not] at hb
           refine q_of k ?_ rfl
           unfold rd
           rw [if_neg hb])
        | (rename_i hb2
           rw [hn] at hb2
           cases hb2)
    | some n =>
      fail "z"
      all_goals first
        | (rename_i hb2 hb3
           rw [hn] at hb2
           cases hb2)
        | (rename_i hb hb2
           rw [e0, decide_eq_true_eq] at hb
           rw [hn]
           fail "z"
           all_goals (rename_i hb3; refine q_of k ?_ rfl; unfold rd; rw [if_pos hb, hn]; simp [hb3]))
        | (rename_i hb
           rw [e0, decide_eq_false_iff_not] at hb
           refine q_of k ?_ rfl
           unfold rd
           rw [if_neg hb])
local macro_rules | `(tactic| fail "zk") => `(tactic| ((with_reducible refine k_read_reading  ?_ ?_)))
def c_l_list : ASp := fun es M Q X => ∃ (p : Addr), ∃ (c : Option Int), ∃ (i : Int), ∃ (n : Int), es = [.r p] ∧ (M p = some (Bg c i n)) ∧ (∀ s i2 n2, s.length ≤ 20000 → Q (.d (.str s)) (um M p (Bg c i2 n2)))
theorem k_l_list {p : Addr} {c : Option Int} {i : Int} {n : Int} {M : Ms} {Q : Ent → Ms → Prop} {X : Xa} (h1 : M p = some (Bg c i n)) (q : ∀ s i2 n2, s.length ≤ 20000 → Q (.d (.str s)) (um M p (Bg c i2 n2))) : c_l_list [.r p] M Q X := ⟨p, c, i, n, rfl, h1, q⟩
theorem k2_l_list {p : Addr} {c : Option Int} {i : Int} {n : Int} {M : Ms} {Q : Ent → Ms → Prop} {X : Xa}  (q : ∀ s i2 n2, s.length ≤ 20000 → Q (.d (.str s)) (um M p (Bg c i2 n2))) : c_l_list [.r p] (um M p (Bg c i n)) Q X := k_l_list (c := c) (i := i) (n := n) um_same  (by simpa only [um_um] using q)
theorem sc_l_list : FnScope ["_law_bag_here", "_law_parts", "_law_k", "_law_before", "_law_word_here"] ["_law_bag_here"] (defScope (topS 33)) := ⟨rfl, rfl, rfl, by decide +kernel, rfl, by decide +kernel, by decide +kernel⟩
theorem ca_l_list (T : Top fa fn K mg) : Ca P w K mg base "_law_list" (topS 33) 3 ["_law_bag_here"] c_l_list := by
  have sc := sc_l_list
  refine ca_of T 24 43 rfl rfl (fun _ _ _ _ _ _ us hl => match us, hl with | [_], _ => rfl) fun fd F => fn_ok F sc (fun es M Q X h => ?_) fun cdv A outer s H E hr => ⟨_, (pss_cons (ps_set (i := 1) sc.nd rfl (Or.inl rfl) (pe_lst pa_nil))
      (pss_cons (ps_for PassesOwn.never rfl (pi_range1 (by rfl) (T.free 34 rfl) (pa_cons (ke_ca (K := K) rfl (ca_l_pick (P := P) (w := w) (base := base) T) hr (by decide) rfl (pa_cons (pv 0) (pa_cons (pe_lst (pa_cons pe_int (pa_cons pe_int (pa_cons pe_int (pa_cons pe_int (pa_cons pe_int (pa_cons pe_int pa_nil))))))) pa_nil))) pa_nil)) (pg_name (i := 2) sc.nd rfl (Or.inl rfl)) (pss_cons (ps_set (i := 3) sc.nd rfl (Or.inl rfl) (pe_op op_mulU pe_str (ke_ca (K := K) rfl (ca_l_draw (P := P) (w := w) (base := base) T) hr (by decide) rfl (pa_cons (pv 0) (pa_cons pe_int pa_nil)))))
      (pss_cons (ps_set (i := 4) sc.nd rfl (Or.inl rfl) (ke_ca (K := K) rfl (ca_l_word (P := P) (w := w) (base := base) T) hr (by decide) rfl (pa_cons (pv 0) (pa_cons pe_str (pa_cons pe_int (pa_cons pe_int pa_nil))))))
      (pss_one (ps_expr (pe_bm PySem.F.plainAttrs_list PySem.F.slot_list_append PySem.F.type_list_append mt_append (pv 1) (pa_cons (pe_op (kAdd (K := K) rfl) (pe_op (kAdd (K := K) rfl) (pv 3) (pv 4)) (pe_op op_mulU pe_str (ke_ca (K := K) rfl (ca_l_draw (P := P) (w := w) (base := base) T) hr (by decide) rfl (pa_cons (pv 0) (pa_cons pe_int pa_nil))))) pa_nil)))))))
      (pss_one (ps_ret (pe_m1 PySem.F.slot_str_join PySem.F.type_str_join (kJoin (K := K) rfl) pe_str (pv 1)))))), fun es M Q X h => ?_⟩
  · obtain ⟨p, c, i, n, rfl, h1, k⟩ := h
    rfl
  · obtain ⟨p, c, i, n, rfl, h1, k⟩ := h
    try simp only [cx_K, cx_Kx]
    rw [show M = um M p (Bg c i n) from (um_id h1).symm]
    refine s_seq (s_set (w_lstM (wa_nil (ex_lm rfl fun l hl => ?_))))
    obtain ⟨npl, hl0⟩ := ne_of_um hl
    rw [um_comm (Ne.symm npl)]
    fail "z"
    refine s_for ?_
    fail "z"
    rename_i j i2 n2 hj0 hj1
    refine ⟨fun t Γ' M' => ∃ (ys : List Str) (i3 n3 : Int) (v1 v2 v3 : Option Ent), Γ' = [some (.r p), some (.r l), v1, v2, v3] ∧ M' = um (um M l (.lst (ys.map fun y => Ent.d (.str y)))) p (Bg c i3 n3) ∧ ys.length = t ∧ ∀ y ∈ ys, y.length ≤ 9, ⟨[], _, _, _, _, _, rfl, rfl, rfl, by simp⟩, fun _ _ _ _ _ => trivial, ?_, ?_⟩
    · rintro t e Γ' M' he ⟨ys, i3, n3, v1, v2, v3, rfl, rfl, hlen, hall⟩
      obtain ⟨ht, rfl⟩ := rgE_get he
      have e1 : (Str.ofString " ").length = 1 := by decide +kernel
      have e2 : (Str.ofString "ab c0=;\"*-").length = 10 := by decide +kernel
      have hml : ∀ d : Int, d ≤ 3 → (Txt.mul (Str.ofString " ") d).length ≤ 3 := fun d hd => Nat.le_trans (mul_len _ _) (by rw [e1]; omega)
      fail "z"
      · exact mul_small (by omega) (by omega) (by omega)
      · rename_i d1 _ _ _ hd1 _ s _ _ hs
        have := hml d1 (by omega)
        exact Nat.le_trans (show _ ≤ 6 by omega) (by decide)
      · exact mul_small (by omega) (by omega) (by omega)
      · rename_i d1 _ _ _ hd1 _ s _ _ hs d2 _ _ _ hd2 _
        have q1 := hml d1 (by omega)
        have q2 := hml d2 (by omega)
        rw [len_app]
        exact Nat.le_trans (show _ ≤ 9 by omega) (by decide)
      · rename_i d1 _ _ _ hd1 _ s _ _ hs d2 i9 n9 _ hd2 _
        have q1 := hml d1 (by omega)
        have q2 := hml d2 (by omega)
        refine ⟨ys ++ [Txt.mul (Str.ofString " ") d1 ++ s ++ Txt.mul (Str.ofString " ") d2], i9, n9, _, _, _, rfl, ?_, by simp [hlen], ?_⟩
        · rw [List.map_append, um_swap npl]
          rfl
        · intro y hy
          rcases List.mem_append.mp hy with hy | hy
          · exact hall y hy
          · rw [List.mem_singleton] at hy
            rw [hy, len_app, len_app]
            omega
    · rintro Γ' M' ⟨ys, i3, n3, v1, v2, v3, rfl, rfl, hlen, hall⟩
      rw [rgE_len] at hlen
      have e3 : (Str.ofString ",").length = 1 := by decide +kernel
      refine s_ret_weak ?_
      fail "z"
      · have := sum_le 9 ys hall
        rw [e3]
        omega
      · refine ⟨_, sameM_two hl0 npl, k _ _ _ (Nat.le_trans (join_len_le _ ys 9 hall) ?_)⟩
        rw [e3]
        omega
local macro_rules | `(tactic| fail "zk") => `(tactic| ((with_reducible refine k_l_list (c := ?c) (i := ?i) (n := ?n) ?hh0 ?_) ; (case hh0 => fail "zlook")))
local macro_rules | `(tactic| fail "zk") => `(tactic| with_reducible refine k2_l_list  ?_)
def c_l_spoilt : ASp := fun es M Q X => ∃ (p : Addr), ∃ (text : Str), ∃ (c : Option Int), ∃ (i : Int), ∃ (n : Int), es = [.r p, .d (.str text)] ∧ (M p = some (Bg c i n)) ∧ (text.length ≤ 20000) ∧ (∀ s i2 n2, s.length ≤ 40001 → Q (.d (.str s)) (um M p (Bg c i2 n2)))
theorem k_l_spoilt {p : Addr} {text : Str} {c : Option Int} {i : Int} {n : Int} {M : Ms} {Q : Ent → Ms → Prop} {X : Xa} (h1 : M p = some (Bg c i n)) (h2 : text.length ≤ 20000) (q : ∀ s i2 n2, s.length ≤ 40001 → Q (.d (.str s)) (um M p (Bg c i2 n2))) : c_l_spoilt [.r p, .d (.str text)] M Q X := ⟨p, text, c, i, n, rfl, h1, h2, q⟩
theorem k2_l_spoilt {p : Addr} {text : Str} {c : Option Int} {i : Int} {n : Int} {M : Ms} {Q : Ent → Ms → Prop} {X : Xa} (h2 : text.length ≤ 20000) (q : ∀ s i2 n2, s.length ≤ 40001 → Q (.d (.str s)) (um M p (Bg c i2 n2))) : c_l_spoilt [.r p, .d (.str text)] (um M p (Bg c i n)) Q X := k_l_spoilt (c := c) (i := i) (n := n) um_same h2 (by simpa only [um_um] using q)
theorem sc_l_spoilt : FnScope ["_law_bag_here", "_law_text_here", "_law_way", "_law_place", "_law_sign"] ["_law_bag_here", "_law_text_here"] (defScope (topS 35)) := ⟨rfl, rfl, rfl, by decide +kernel, rfl, by decide +kernel, by decide +kernel⟩
theorem ca_l_spoilt (T : Top fa fn K mg) : Ca P w K mg base "_law_spoilt" (topS 35) 3 ["_law_bag_here", "_law_text_here"] c_l_spoilt := by
  have sc := sc_l_spoilt
  refine ca_of T 25 44 rfl rfl (fun _ _ _ _ _ _ us hl => match us, hl with | [_, _], _ => rfl) fun fd F => fn_ok F sc (fun es M Q X h => ?_) fun cdv A outer s H E hr => ⟨_, (pss_cons (ps_set (i := 2) sc.nd rfl (Or.inl rfl) (ke_ca (K := K) rfl (ca_l_draw (P := P) (w := w) (base := base) T) hr (by decide) rfl (pa_cons (pv 0) (pa_cons pe_int pa_nil))))
      (pss_cons (ps_set (i := 3) sc.nd rfl (Or.inl rfl) (ke_ca (K := K) rfl (ca_l_draw (P := P) (w := w) (base := base) T) hr (by decide) rfl (pa_cons (pv 0) (pa_cons (pe_op (kAdd (K := K) rfl) (pe_callB (kLen (K := K) rfl) (by rfl) (T.free 7 rfl) (by decide +kernel) (pa_cons (pv 1) pa_nil)) pe_int) pa_nil))))
      (pss_cons (ps_set (i := 4) sc.nd rfl (Or.inl rfl) (ke_ca (K := K) rfl (ca_l_pick (P := P) (w := w) (base := base) T) hr (by decide) rfl (pa_cons (pv 0) (pa_cons (pe_op (kAdd (K := K) rfl) (ke_ca0 (K := K) rfl (ca_l_signs (P := P) (w := w) (base := base) T) hr (by decide) rfl) pe_str) pa_nil))))
      (pss_cons (ps_if (pt_cmpR (kEq (K := K) rfl hr.units) (pv 2) pe_int (nomark _)) (pss_one (ps_ret (pe_op (kAdd (K := K) rfl) (pe_op (kAdd (K := K) rfl) (pe_slice (kSl (K := K) rfl) (pv 1) po_none (po_some (pv 3))) (pv 4)) (pe_slice (kSl (K := K) rfl) (pv 1) (po_some (pv 3)) po_none)))) pss_nil)
      (pss_cons (ps_if (pt_cmpR (kEq (K := K) rfl hr.units) (pv 2) pe_int (nomark _)) (pss_one (ps_ret (pe_op (kAdd (K := K) rfl) (pe_op (kAdd (K := K) rfl) (pe_slice (kSl (K := K) rfl) (pv 1) po_none (po_some (pv 3))) (pv 4)) (pe_slice (kSl (K := K) rfl) (pv 1) (po_some (pe_op (kAdd (K := K) rfl) (pv 3) pe_int)) po_none)))) pss_nil)
      (pss_one (ps_ret (pv 1)))))))), fun es M Q X h => ?_⟩
  · obtain ⟨p, text, c, i, n, rfl, h1, h2, k⟩ := h
    rfl
  · obtain ⟨p, text, c, i, n, rfl, h1, h2, k⟩ := h
    try simp only [cx_K, cx_Kx]
    have e0 : (Str.ofString "\n\t").length = 2 := by decide +kernel
    have e1 : SIGNS.length = 94 := by decide +kernel
    have e9 : ∀ x : Nat, (⟨#[x]⟩ : Str).length = 1 := fun _ => rfl
    have hc : ∀ a b, (cutS text a b).length ≤ 20000 := fun a b => Nat.le_trans (cut_len text a b) h2
    fail "z"
    all_goals first
      | exact k _ _ _ (Nat.le_trans h2 (by decide))
      | (refine k _ _ _ ?_; rw [len_app, len_app, e9]; exact Nat.le_trans (Nat.add_le_add (Nat.add_le_add (hc _ _) (Nat.le_refl 1)) (hc _ _)) (by decide))
      | (rw [len_app, e9]; exact Nat.le_trans (Nat.add_le_add (Nat.add_le_add (hc _ _) (Nat.le_refl 1)) (hc _ _)) (by decide))
      | (rw [e9]; exact Nat.le_trans (Nat.add_le_add (hc _ _) (Nat.le_refl 1)) (by decide))
local macro_rules | `(tactic| fail "zk") => `(tactic| ((with_reducible refine k_l_spoilt (c := ?c) (i := ?i) (n := ?n) ?hh0 ?_ ?_) ; (case hh0 => fail "zlook")))
local macro_rules | `(tactic| fail "zk") => `(tactic| with_reducible refine k2_l_spoilt ?_ ?_)
def c_l_number : ASp := fun es M Q X => ∃ (text : Str), es = [.d (.str text)] ∧ (text.length ≤ 100000) ∧ (Q (.d (oi (num text))) M)
theorem k_l_number {text : Str} {M : Ms} {Q : Ent → Ms → Prop} {X : Xa} (h1 : text.length ≤ 100000) (q : Q (.d (oi (num text))) M) : c_l_number [.d (.str text)] M Q X := ⟨text, rfl, h1, q⟩
theorem sc_l_number : FnScope ["_law_text_here"] ["_law_text_here"] (defScope (topS 37)) := ⟨rfl, rfl, rfl, by decide +kernel, rfl, by decide +kernel, by decide +kernel⟩
theorem ca_l_number (T : Top fa fn K mg) : Ca P w K mg base "_law_number" (topS 37) 3 ["_law_text_here"] c_l_number := by
  have sc := sc_l_number
  refine ca_of T 26 45 rfl rfl (fun _ _ _ _ _ _ us hl => match us, hl with | [_], _ => rfl) fun fd F => fn_ok F sc (fun es M Q X h => ?_) fun cdv A outer s H E hr => ⟨_, (pss_cons (ps_if (kt_tru (K := K) rfl (ke_ca (K := K) rfl (ca_l_digits (P := P) (w := w) (base := base) T) hr (by decide) rfl (pa_cons (pv 0) pa_nil)) (by intro _; rfl)) (pss_one (ps_ret (pe_callTy call_intU (by rfl) (T.free 8 rfl) (by decide +kernel) (pa_cons (pv 0) pa_nil)))) pss_nil)
      (pss_one (ps_ret pe_non))), fun es M Q X h => ?_⟩
  · obtain ⟨text, rfl, h1, k⟩ := h
    rfl
  · obtain ⟨text, rfl, h1, k⟩ := h
    try simp only [cx_K, cx_Kx]
    fail "z"
    · rename_i hb
      refine n_intS (dig_int hb) (by have := (dig_all hb).2.2; omega) ?_
      fail "z"
      refine q_of k ?_ rfl
      unfold num
      rw [if_pos hb]
      try rfl
    · rename_i hb
      refine q_of k ?_ rfl
      unfold num
      rw [if_neg (by rw [hb]; decide)]
      try rfl
local macro_rules | `(tactic| fail "zk") => `(tactic| ((with_reducible refine k_l_number  ?_ ?_)))
def c_l_text : ASp := fun es M Q X => ∃ (p : Addr), ∃ (c : Option Int), ∃ (i : Int), ∃ (n : Int), es = [.r p] ∧ (M p = some (Bg c i n)) ∧ (∀ s i2 n2, s.length ≤ 20000 → Q (.d (.str s)) (um M p (Bg c i2 n2)))
theorem k_l_text {p : Addr} {c : Option Int} {i : Int} {n : Int} {M : Ms} {Q : Ent → Ms → Prop} {X : Xa} (h1 : M p = some (Bg c i n)) (q : ∀ s i2 n2, s.length ≤ 20000 → Q (.d (.str s)) (um M p (Bg c i2 n2))) : c_l_text [.r p] M Q X := ⟨p, c, i, n, rfl, h1, q⟩
theorem k2_l_text {p : Addr} {c : Option Int} {i : Int} {n : Int} {M : Ms} {Q : Ent → Ms → Prop} {X : Xa}  (q : ∀ s i2 n2, s.length ≤ 20000 → Q (.d (.str s)) (um M p (Bg c i2 n2))) : c_l_text [.r p] (um M p (Bg c i n)) Q X := k_l_text (c := c) (i := i) (n := n) um_same  (by simpa only [um_um] using q)
theorem sc_l_text : FnScope ["_law_bag_here", "_law_digits_here", "_law_low", "_law_way", "_law_sizes", "_law_words_here"] ["_law_bag_here"] (defScope (topS 34)) := ⟨rfl, rfl, rfl, by decide +kernel, rfl, by decide +kernel, by decide +kernel⟩
theorem ca_l_text (T : Top fa fn K mg) : Ca P w K mg base "_law_text" (topS 34) 4 ["_law_bag_here"] c_l_text := by
  have sc := sc_l_text
  refine ca_of T 27 46 rfl rfl (fun _ _ _ _ _ _ us hl => match us, hl with | [_], _ => rfl) fun fd F => fn_ok F sc (fun es M Q X h => ?_) fun cdv A outer s H E hr => ⟨_, (pss_cons (ps_set (i := 1) sc.nd rfl (Or.inl rfl) pe_str)
      (pss_cons (ps_set (i := 2) sc.nd rfl (Or.inl rfl) (ke_ca0 (K := K) rfl (ca_l_letters (P := P) (w := w) (base := base) T) hr (by decide) rfl))
      (pss_cons (ps_set (i := 3) sc.nd rfl (Or.inl rfl) (ke_ca (K := K) rfl (ca_l_draw (P := P) (w := w) (base := base) T) hr (by decide) rfl (pa_cons (pv 0) (pa_cons pe_int pa_nil))))
      (pss_cons (ps_if (pt_cmpR (kEq (K := K) rfl hr.units) (pv 3) pe_int (nomark _)) (pss_one (ps_ret (ke_ca (K := K) rfl (ca_l_list (P := P) (w := w) (base := base) T) hr (by decide) rfl (pa_cons (pv 0) pa_nil)))) pss_nil)
      (pss_cons (ps_if (pt_cmpR (kEq (K := K) rfl hr.units) (pv 3) pe_int (nomark _)) (pss_one (ps_ret (pe_op (kAdd (K := K) rfl) (ke_ca (K := K) rfl (ca_l_pick (P := P) (w := w) (base := base) T) hr (by decide) rfl (pa_cons (pv 0) (pa_cons (pe_lst (pa_cons pe_str (pa_cons pe_str (pa_cons pe_str (pa_cons pe_str (pa_cons pe_str (pa_cons pe_str pa_nil))))))) pa_nil))) (ke_ca (K := K) rfl (ca_l_word (P := P) (w := w) (base := base) T) hr (by decide) rfl (pa_cons (pv 0) (pa_cons (pv 1) (pa_cons pe_int (pa_cons pe_int pa_nil)))))))) pss_nil)
      (pss_cons (ps_if (pt_cmpR (kEq (K := K) rfl hr.units) (pv 3) pe_int (nomark _)) (pss_one (ps_ret (pe_op (kAdd (K := K) rfl) pe_str (ke_ca (K := K) rfl (ca_l_word (P := P) (w := w) (base := base) T) hr (by decide) rfl (pa_cons (pv 0) (pa_cons (pe_op (kAdd (K := K) rfl) (pe_op (kAdd (K := K) rfl) (pv 2) (pv 1)) pe_str) (pa_cons pe_int (pa_cons (ke_ca (K := K) rfl (ca_l_most (P := P) (w := w) (base := base) T) hr (by decide) rfl (pa_cons (pv 0) (pa_cons pe_int (pa_cons pe_int pa_nil)))) pa_nil)))))))) pss_nil)
      (pss_cons (ps_if (pt_cmpR (kEq (K := K) rfl hr.units) (pv 3) pe_int (nomark _)) (pss_one (ps_ret (pe_op (kAdd (K := K) rfl) (ke_ca (K := K) rfl (ca_l_word (P := P) (w := w) (base := base) T) hr (by decide) rfl (pa_cons (pv 0) (pa_cons (pv 2) (pa_cons pe_int (pa_cons pe_int pa_nil))))) (ke_ca (K := K) rfl (ca_l_word (P := P) (w := w) (base := base) T) hr (by decide) rfl (pa_cons (pv 0) (pa_cons (pe_op (kAdd (K := K) rfl) (pe_op (kAdd (K := K) rfl) (pv 2) (pv 1)) pe_str) (pa_cons pe_int (pa_cons (ke_ca (K := K) rfl (ca_l_most (P := P) (w := w) (base := base) T) hr (by decide) rfl (pa_cons (pv 0) (pa_cons pe_int (pa_cons pe_int pa_nil)))) pa_nil)))))))) pss_nil)
      (pss_cons (ps_if (pt_cmpR (kEq (K := K) rfl hr.units) (pv 3) pe_int (nomark _)) (pss_cons (ps_set (i := 4) sc.nd rfl (Or.inl rfl) (pe_lst (pa_cons pe_int (pa_cons pe_int (pa_cons pe_int (pa_cons pe_int (pa_cons pe_int (pa_cons pe_int (pa_cons pe_int (pa_cons pe_int (pa_cons pe_int (pa_cons pe_int (pa_cons pe_int (pa_cons pe_int pa_nil))))))))))))))
      (pss_one (ps_ret (pe_op op_mulU (ke_ca (K := K) rfl (ca_l_pick (P := P) (w := w) (base := base) T) hr (by decide) rfl (pa_cons (pv 0) (pa_cons (pe_lst (pa_cons pe_str (pa_cons pe_str (pa_cons pe_str (pa_cons pe_str (pa_cons pe_str (pa_cons pe_str (pa_cons pe_str pa_nil)))))))) pa_nil))) (ke_ca (K := K) rfl (ca_l_pick (P := P) (w := w) (base := base) T) hr (by decide) rfl (pa_cons (pv 0) (pa_cons (pv 4) pa_nil))))))) pss_nil)
      (pss_cons (ps_if (pt_cmpR (kEq (K := K) rfl hr.units) (pv 3) pe_int (nomark _)) (pss_cons (ps_set (i := 5) sc.nd rfl (Or.inl rfl) (pe_lst (pa_cons pe_str (pa_cons pe_str (pa_cons pe_str (pa_cons pe_str (pa_cons pe_str (pa_cons pe_str (pa_cons pe_str (pa_cons pe_str (pa_cons pe_str (pa_cons pe_str (pa_cons pe_str (pa_cons pe_str pa_nil))))))))))))))
      (pss_one (ps_ret (ke_ca (K := K) rfl (ca_l_pick (P := P) (w := w) (base := base) T) hr (by decide) rfl (pa_cons (pv 0) (pa_cons (pe_op (kAdd (K := K) rfl) (pv 5) (pe_lst (pa_cons pe_str (pa_cons pe_str (pa_cons pe_str (pa_cons pe_str (pa_cons pe_str (pa_cons pe_str (pa_cons pe_str (pa_cons pe_str (pa_cons pe_str (pa_cons pe_str (pa_cons pe_str (pa_cons pe_str pa_nil)))))))))))))) pa_nil)))))) pss_nil)
      (pss_cons (ps_if (pt_cmpR (kEq (K := K) rfl hr.units) (pv 3) pe_int (nomark _)) (pss_one (ps_ret (ke_ca (K := K) rfl (ca_l_word (P := P) (w := w) (base := base) T) hr (by decide) rfl (pa_cons (pv 0) (pa_cons (ke_ca0 (K := K) rfl (ca_l_signs (P := P) (w := w) (base := base) T) hr (by decide) rfl) (pa_cons pe_int (pa_cons (ke_ca (K := K) rfl (ca_l_most (P := P) (w := w) (base := base) T) hr (by decide) rfl (pa_cons (pv 0) (pa_cons pe_int (pa_cons pe_int pa_nil)))) pa_nil))))))) pss_nil)
      (pss_one (ps_ret (ke_ca (K := K) rfl (ca_l_word (P := P) (w := w) (base := base) T) hr (by decide) rfl (pa_cons (pv 0) (pa_cons (pe_op (kAdd (K := K) rfl) (ke_ca0 (K := K) rfl (ca_l_signs (P := P) (w := w) (base := base) T) hr (by decide) rfl) pe_str) (pa_cons pe_int (pa_cons pe_int pa_nil))))))))))))))))), fun es M Q X h => ?_⟩
  · obtain ⟨p, c, i, n, rfl, h1, k⟩ := h
    rfl
  · obtain ⟨p, c, i, n, rfl, h1, k⟩ := h
    try simp only [cx_K, cx_Kx]
    have e0 : (Str.ofString "\n\t").length = 2 := by decide +kernel
    have e1 : SIGNS.length = 94 := by decide +kernel
    have e2 : (Str.ofString "/").length = 1 := by decide +kernel
    have e3 : LETTERS.length = 26 := by decide +kernel
    have e4 : (Str.ofString "0123456789").length = 10 := by decide +kernel
    have e5 : (Str.ofString "/-.").length = 3 := by decide +kernel
    have e6 : (Str.ofString "-").length = 1 := by decide +kernel
    fail "z"
    all_goals first
      | (refine k _ _ _ ?_; (try rw [len_app]); omega)
      | exact mul_small (by omega) (by omega) (by omega)
      | (rename_i s h1 h2 j i2 n2 h3 h4
         refine k _ _ _ (Nat.le_trans (mul_len _ _) (Nat.le_trans (Nat.mul_le_mul h2 (show j.toNat ≤ 1000 by omega)) (by decide))))
      | skip
local macro_rules | `(tactic| fail "zk") => `(tactic| ((with_reducible refine k_l_text (c := ?c) (i := ?i) (n := ?n) ?hh0 ?_) ; (case hh0 => fail "zlook")))
local macro_rules | `(tactic| fail "zk") => `(tactic| with_reducible refine k2_l_text  ?_)
def c_l_signed : ASp := fun es M Q X => ∃ (text : Str), es = [.d (.str text)] ∧ (text.length ≤ 100000) ∧ (Q (.d (oi (rd text))) M)
theorem k_l_signed {text : Str} {M : Ms} {Q : Ent → Ms → Prop} {X : Xa} (h1 : text.length ≤ 100000) (q : Q (.d (oi (rd text))) M) : c_l_signed [.d (.str text)] M Q X := ⟨text, rfl, h1, q⟩
theorem sc_l_signed : FnScope ["_law_text_here"] ["_law_text_here"] (defScope (topS 38)) := ⟨rfl, rfl, rfl, by decide +kernel, rfl, by decide +kernel, by decide +kernel⟩
theorem ca_l_signed (T : Top fa fn K mg) : Ca P w K mg base "_law_signed" (topS 38) 4 ["_law_text_here"] c_l_signed := by
  have sc := sc_l_signed
  refine ca_of T 28 47 rfl rfl (fun _ _ _ _ _ _ us hl => match us, hl with | [_], _ => rfl) fun fd F => fn_ok F sc (fun es M Q X h => ?_) fun cdv A outer s H E hr => ⟨_, (pss_cons (ps_if (PW.pt (pw_and (pt_cmpR (kEq (K := K) rfl hr.units) (pe_slice (kSl (K := K) rfl) (pv 0) po_none (po_some pe_int)) pe_str (nomark _)) (pw_and (pt_cmpR (kNe (K := K) rfl hr.units) (pv 0) pe_str (nomark _)) (pw_and1 (kt_tru (K := K) rfl (ke_ca (K := K) rfl (ca_l_digits (P := P) (w := w) (base := base) T) hr (by decide) rfl (pa_cons (pe_slice (kSl (K := K) rfl) (pv 0) (po_some pe_int) po_none) pa_nil)) (by intro _; rfl)))))) (pss_one (ps_ret (pe_op op_sub pe_int (pe_callTy call_intU (by rfl) (T.free 8 rfl) (by decide +kernel) (pa_cons (pe_slice (kSl (K := K) rfl) (pv 0) (po_some pe_int) po_none) pa_nil))))) pss_nil)
      (pss_one (ps_ret (ke_ca (K := K) rfl (ca_l_number (P := P) (w := w) (base := base) T) hr (by decide) rfl (pa_cons (pv 0) pa_nil))))), fun es M Q X h => ?_⟩
  · obtain ⟨text, rfl, h1, k⟩ := h
    rfl
  · obtain ⟨text, rfl, h1, k⟩ := h
    try simp only [cx_K, cx_Kx]
    have e5 : (cutS text none (some 1) = Str.ofString "-") ↔ (cs text).head? = some 45 := head1_eq text 45
    have hcl := cut_len text (some 1) none
    fail "z"
    · rename_i hb1 hb2 hb3
      refine n_intS (dig_int hb3) (by have := (dig_all hb3).2.2; omega) ?_
      fail "z"
      refine q_of k ?_ rfl
      rw [rd_eq (e5.mp hb1), if_neg hb2, if_pos hb3]
    · rename_i hb1 hb2 hb3
      refine q_of k ?_ rfl
      rw [rd_eq (e5.mp hb1), if_neg hb2, if_neg (by rw [hb3]; decide), num_minus (e5.mp hb1)]
    · rename_i hb1 hb2 hb3
      refine q_of k ?_ rfl
      rw [rd_eq (e5.mp hb1), if_pos hb2, num_minus (e5.mp hb1)]
    · rename_i hb1 hb2
      refine q_of k ?_ rfl
      unfold rd
      rw [if_neg fun q => hb1 (e5.mpr q)]
local macro_rules | `(tactic| fail "zk") => `(tactic| ((with_reducible refine k_l_signed  ?_ ?_)))
def c_l_right : ASp := fun es M Q X => ∃ (text : Str), es = [.d (.str text)] ∧ (text.length ≤ 50000) ∧ (Q (.d (.bool true)) M)
theorem k_l_right {text : Str} {M : Ms} {Q : Ent → Ms → Prop} {X : Xa} (h1 : text.length ≤ 50000) (q : Q (.d (.bool true)) M) : c_l_right [.d (.str text)] M Q X := ⟨text, rfl, h1, q⟩
theorem sc_l_right : FnScope ["_law_text_here", "_law_plain", "_law_told"] ["_law_text_here"] (defScope (topS 41)) := ⟨rfl, rfl, rfl, by decide +kernel, rfl, by decide +kernel, by decide +kernel⟩
theorem ca_l_right (T : Top fa fn K mg) : Ca P w K mg base "_law_right" (topS 41) 5 ["_law_text_here"] c_l_right := by
  have sc := sc_l_right
  refine ca_of T 29 49 rfl rfl (fun _ _ _ _ _ _ us hl => match us, hl with | [_], _ => rfl) fun fd F => fn_ok F sc (fun es M Q X h => ?_) fun cdv A outer s H E hr => ⟨_, (pss_cons (ps_set (i := 1) sc.nd rfl (Or.inl rfl) (ke_ca (K := K) rfl (ca_l_all_in (P := P) (w := w) (base := base) T) hr (by decide) rfl (pa_cons (pv 0) (pa_cons (ke_ca0 (K := K) rfl (ca_l_signs (P := P) (w := w) (base := base) T) hr (by decide) rfl) pa_nil))))
      (pss_cons (ps_if (PW.pt (pw_or (pt_not (kt_tru (K := K) rfl (ke_ca (K := K) rfl (ca_l_truth (P := P) (w := w) (base := base) T) hr (by decide) rfl (pa_cons (ke_ca (K := K) rfl (ca_is_plain (P := P) (w := w) (base := base) T) hr (by decide) rfl (pa_cons (pv 0) pa_nil)) (pa_cons (pv 1) pa_nil))) (by intro _; rfl))) (pw_or1 (pt_not (kt_tru (K := K) rfl (ke_ca (K := K) rfl (ca_l_truth (P := P) (w := w) (base := base) T) hr (by decide) rfl (pa_cons (ke_caK0 (K := K) rfl (ca_is_path (P := P) (w := w) (base := base) T) ["text"] [0] hr (by decide) rfl (fun _ _ _ _ _ _ us ws h1 h2 => match us, ws, h1, h2 with | [], [_], _, _ => rfl) (pk_cons (pv 0) pk_nil)) (pa_cons (ke_ca (K := K) rfl (ca_l_is_path (P := P) (w := w) (base := base) T) hr (by decide) rfl (pa_cons (pv 0) pa_nil)) pa_nil))) (by intro _; rfl)))))) (pss_one (ps_ret pe_bl)) pss_nil)
      (pss_cons (ps_if (PW.pt (pw_or (pt_not (kt_tru (K := K) rfl (ke_ca (K := K) rfl (ca_l_truth (P := P) (w := w) (base := base) T) hr (by decide) rfl (pa_cons (ke_ca (K := K) rfl (ca_is_field_name (P := P) (w := w) (base := base) T) hr (by decide) rfl (pa_cons (pv 0) pa_nil)) (pa_cons (ke_ca (K := K) rfl (ca_l_is_name (P := P) (w := w) (base := base) T) hr (by decide) rfl (pa_cons (pv 0) pa_nil)) pa_nil))) (by intro _; rfl))) (pw_or1 (pt_not (kt_tru (K := K) rfl (ke_ca (K := K) rfl (ca_l_truth (P := P) (w := w) (base := base) T) hr (by decide) rfl (pa_cons (ke_caK0 (K := K) rfl (ca_is_value (P := P) (w := w) (base := base) T) ["text"] [0] hr (by decide) rfl (fun _ _ _ _ _ _ us ws h1 h2 => match us, ws, h1, h2 with | [], [_], _, _ => rfl) (pk_cons (pv 0) pk_nil)) (pa_cons (ke_ca (K := K) rfl (ca_l_is_value (P := P) (w := w) (base := base) T) hr (by decide) rfl (pa_cons (pv 0) pa_nil)) pa_nil))) (by intro _; rfl)))))) (pss_one (ps_ret pe_bl)) pss_nil)
      (pss_cons (ps_if (pt_not (kt_tru (K := K) rfl (ke_ca (K := K) rfl (ca_l_integer (P := P) (w := w) (base := base) T) hr (by decide) rfl (pa_cons (ke_ca (K := K) rfl (ca_read_number (P := P) (w := w) (base := base) T) hr (by decide) rfl (pa_cons (pv 0) pa_nil)) (pa_cons (ke_ca (K := K) rfl (ca_l_number (P := P) (w := w) (base := base) T) hr (by decide) rfl (pa_cons (pv 0) pa_nil)) pa_nil))) (by intro _; rfl))) (pss_one (ps_ret pe_bl)) pss_nil)
      (pss_cons (ps_if (pt_not (kt_tru (K := K) rfl (ke_ca (K := K) rfl (ca_l_integer (P := P) (w := w) (base := base) T) hr (by decide) rfl (pa_cons (ke_caK0 (K := K) rfl (ca_read_reading (P := P) (w := w) (base := base) T) ["text"] [0] hr (by decide) rfl (fun _ _ _ _ _ _ us ws h1 h2 => match us, ws, h1, h2 with | [], [_], _, _ => rfl) (pk_cons (pv 0) pk_nil)) (pa_cons (ke_ca (K := K) rfl (ca_l_signed (P := P) (w := w) (base := base) T) hr (by decide) rfl (pa_cons (pv 0) pa_nil)) pa_nil))) (by intro _; rfl))) (pss_one (ps_ret pe_bl)) pss_nil)
      (pss_cons (ps_if (pt_not (kt_tru (K := K) rfl (pv 1) (by intro _; rfl))) (pss_one (ps_ret pe_bl)) pss_nil)
      (pss_cons (ps_set (i := 2) sc.nd rfl (Or.inl rfl) (ke_caK0 (K := K) rfl (ca_list_elements (P := P) (w := w) (base := base) T) ["text"] [0] hr (by decide) rfl (fun _ _ _ _ _ _ us ws h1 h2 => match us, ws, h1, h2 with | [], [_], _, _ => rfl) (pk_cons (pv 0) pk_nil)))
      (pss_one (ps_ret (ke_and (K := K) rfl (pe_callB (kIsi (K := K) rfl) (by rfl) (T.free 16 rfl) (by decide +kernel) (pa_cons (pv 2) (pa_cons (pe_bltn (v := .ty "list") (by rfl) (T.free 48 rfl) PyProof.Rows.boot_list rfl) pa_nil))) (pe_one (pe_cmpR (kEq (K := K) rfl hr.units) (pv 2) (ke_ca (K := K) rfl (ca_l_words (P := P) (w := w) (base := base) T) hr (by decide) rfl (pa_cons (pv 0) pa_nil)) (nomark _))))))))))))), fun es M Q X h => ?_⟩
  · obtain ⟨text, rfl, h1, k⟩ := h
    rfl
  · obtain ⟨text, rfl, h1, k⟩ := h
    try simp only [cx_K, cx_Kx]
    have e0 := plain_all text
    fail "z"
    have ok := words_ok (by assumption)
    refine o_eqSs ok ok ?_
    fail "z"
    refine q_of k ?_ rfl
    rw [decide_eq_true rfl]
local macro_rules | `(tactic| fail "zk") => `(tactic| ((with_reducible refine k_l_right  ?_ ?_)))
def c_law : ASp := fun es M Q X => ∃ (ns : List Int), es = [.w (ns.map PyData.int)] ∧ (ns.length ≤ 63) ∧ (∀ M', Q (.d (.bool true)) M')
theorem k_law {ns : List Int} {M : Ms} {Q : Ent → Ms → Prop} {X : Xa} (h1 : ns.length ≤ 63) (q : ∀ M', Q (.d (.bool true)) M') : c_law [.w (ns.map PyData.int)] M Q X := ⟨ns, rfl, h1, q⟩
theorem sc_law : FnScope ["_law_script", "_law_k", "_law_bag_here"] ["_law_script"] (defScope (topS 42)) := ⟨rfl, rfl, rfl, by decide +kernel, rfl, by decide +kernel, by decide +kernel⟩
theorem ca_law (T : Top fa fn K mg) : Ca P w K mg base "law" (topS 42) 6 ["_law_script"] c_law := by
  have sc := sc_law
  refine ca_of T 30 52 rfl rfl (fun _ _ _ _ _ _ us hl => match us, hl with | [_], _ => rfl) fun fd F => fn_ok F sc (fun es M Q X h => ?_) fun cdv A outer s H E hr => ⟨_, (pss_cons (ps_for PassesOwn.never rfl (pi_range1 (by rfl) (T.free 34 rfl) (pa_cons (pe_callB (call_max2 rfl) (by rfl) (T.free 50 rfl) (by decide +kernel) (pa_cons pe_int (pa_cons (pe_callB (call_min2 rfl) (by rfl) (T.free 51 rfl) (by decide +kernel) (pa_cons pe_int (pa_cons (pe_callB (kLen (K := K) rfl) (by rfl) (T.free 7 rfl) (by decide +kernel) (pa_cons (pv 0) pa_nil)) pa_nil))) pa_nil))) pa_nil)) (pg_name (i := 1) sc.nd rfl (Or.inl rfl)) (pss_cons (ps_set (i := 2) sc.nd rfl (Or.inl rfl) (ke_ca (K := K) rfl (ca_l_bag (P := P) (w := w) (base := base) T) hr (by decide) rfl (pa_cons (pv 0) (pa_cons (pv 1) pa_nil))))
      (pss_one (ps_if (pt_not (kt_tru (K := K) rfl (ke_ca (K := K) rfl (ca_l_right (P := P) (w := w) (base := base) T) hr (by decide) rfl (pa_cons (ke_ca (K := K) rfl (ca_l_spoilt (P := P) (w := w) (base := base) T) hr (by decide) rfl (pa_cons (pv 2) (pa_cons (ke_ca (K := K) rfl (ca_l_text (P := P) (w := w) (base := base) T) hr (by decide) rfl (pa_cons (pv 2) pa_nil)) pa_nil))) pa_nil)) (by intro _; rfl))) (pss_one (ps_ret pe_bl)) pss_nil))))
      (pss_one (ps_ret pe_bl))), fun es M Q X h => ?_⟩
  · obtain ⟨ns, rfl, h1, k⟩ := h
    rfl
  · obtain ⟨ns, rfl, h1, k⟩ := h
    try simp only [cx_K, cx_Kx]
    refine s_seq (s_for ?_)
    fail "z"
    refine ⟨fun t Γ' M' => ∃ v1 v2, Γ' = [some (.w (ns.map PyData.int)), v1, v2], ⟨_, _, rfl⟩, fun _ _ _ _ _ => trivial, ?_, ?_⟩
    · rintro t e Γ' M' he ⟨v1, v2, rfl⟩
      obtain ⟨ht, rfl⟩ := rgE_get he
      fail "z"
      exact ⟨_, _, rfl⟩
    · rintro Γ' M' ⟨v1, v2, rfl⟩
      fail "z"
      exact k _
local macro_rules | `(tactic| fail "zk") => `(tactic| ((with_reducible refine k_law  ?_ ?_)))
end
abbrev R : PySem.W.OpenRow := PySem.W.OpenLaw.row PySem.Challenge.rw_hopkeep_k00_fields_read
abbrev hk : PySem.W.Hook := He.hookD 4 fa fn
def ob (s : PySem.W.SharedT) : He.AlD := He.obsDG 4 fa fn (HandSHeadRun.getT s)
theorem ob_eq (s : PySem.W.SharedT) : ob s = hk.obs s.abs := He.obsDG_eq (HandSHeadRun.getT_eq s)
def loose : List PySem.Str := (["DIGITS", "LETTERS", "NAME_SIGNS", "PATH_SIGNS", "MOST_DIGITS", "MOST_NAME", "MOST_PATH", "MOST_VALUE", "LENGTH_NAME", "PERCENT_CODE", "is_plain_sign", "is_plain", "consists_of", "is_path", "is_field_name", "is_value", "list_elements", "read_number", "read_reading", "_law_bag", "_law_draw", "_law_pick", "_law_most", "_law_word", "_law_letters", "_law_signs", "_law_all_in", "_law_is_path", "_law_is_name", "_law_is_value"] : List PySem.Str) ++ (["_law_digits", "_law_list", "_law_text", "_law_spoilt", "_law_words", "_law_number", "_law_signed", "_law_truth", "_law_integer", "_law_right"] : List PySem.Str)
theorem run (w : World) : HandSHeadRun.RunEq R (PySem.W.view R.prog [42]) hk ob 3000 loose w := by
  intro os
  kernel_rfl
end K00
open PySem PySem.W PySem.Calls PyProof.Rows
theorem PySem.Challenge.cw_hopkeep_k00_fields_read_holds : PySem.Challenge.rw_hopkeep_k00_fields_read.Holds := by
  w_on; o_law
  refine HandSHeadRun.head_any (r := OpenLaw.row PySem.Challenge.rw_hopkeep_k00_fields_read) (q := view (OpenLaw.row PySem.Challenge.rw_hopkeep_k00_fields_read).prog [42]) (H := K00.hk) (ob := K00.ob) (M := 3000) (loose := K00.loose) (d := HandSHeadRun.topDef (OpenLaw.row PySem.Challenge.rw_hopkeep_k00_fields_read).prog 42) (kwd := []) K00.ob_eq
    (by kernel_rfl) (fun s => by kernel_rfl) K00.run (by kernel_rfl) (by kernel_rfl) (by kernel_rfl) (by rfl) (by first | assumption | decide +kernel) (by decide +kernel) ⟨rfl, rfl, rfl, rfl, rfl, by decide +kernel⟩ ?hw ?hc
  case hw => w_witness2
  case hc =>
    refine L2.walk_ofE (l := PySem.Challenge.rw_hopkeep_k00_fields_read) (n := 63) (k := 6) (x := "_law_script") (CX := L2.CX0) rfl (by decide) (by kernel_rfl) ⟨rfl, by decide, by decide⟩ ?F (fun _ _ _ _ z => z)
    intro w mg fa h Y G hmg0
    obtain ⟨K, KX, c⟩ := Y
    have hmg : mg ("law" : PySem.Str) = some (.ref fa) := by
      have e : (HandSHeadRun.topDef (OpenLaw.row PySem.Challenge.rw_hopkeep_k00_fields_read).prog 42).name = ("law" : PySem.Str) := by kernel_rfl
      rw [← e]
      exact hmg0
    obtain ⟨fd, hb, hF⟩ := Z.law_fn (P := PySem.Challenge.rw_hopkeep_k00_fields_read.prog) (w := w) (k := 6) (c := K00.c_law) (x := "_law_script") KX G hmg ⟨h, KX, G, c⟩ (fun base T => K00.ca_law (base := base) T) (fun s v fd F => Z.law_binds F (fun _ _ _ _ _ _ us hl => match us, hl with | [_], _ => rfl) s v)
    exact ⟨K, fd, _, KX, hb, fun H a ns hl _ hS => Z.law_in hS (fun _ => rfl) fun Qa X hq => ⟨ns, rfl, hl, hq⟩, hF⟩
