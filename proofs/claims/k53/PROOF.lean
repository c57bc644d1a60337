import PyProof.Rows.All
import Wide.All
import OpenK.AllK
import Wide.FinOn
import HandS.Base
import HandS.Call
import HandS.List
import HandS.Comp
import HandS.Dict
import HandS.Iter
import HandS.Text
import HandS.Walk
import HandS.Flow
import HandS.Words
import HandS.Defaults
import HandS.Steps
import HandS.Exc
import HandS.ExcOwn
import HandS.CallSlots
import HandS.StrMore
import HandS.FStr
import HandS.IsInst
import HandS.Codes
import HandS.Wide
import HandS.Conv
import HandS.StrSplit
import HandS.More
import HandS.Small
import HandS.Style
import HandS.HeadEnd
import HandS.HeadHook1
import HandS.HeadHook2
import HandS.Head0
import HandS.Head1
import HandS.Head2
import HandS.WordsExc
import HandS.MakeKwOnly
import HandS.Property
import HandS.ClsMeth
import KE.KSuper
import KE.IntTextLaws
import HandS.ListItems
import HandS.Nested
import HandS.TupLe
import PyProof.MaxThree
import PyProof.SeqI3
import HandS.ExcInit
import HandS.ExcSuper
import HandS.TryOnly
import HandS.TryMany
import HandS.ExcField
import HandS.ExcIs
import HandS.DictComp
import HandS.SlotsOwn
import PyProof.Rows.ListMulArg
import HandS.ReplaceLit
import KE.KFmtOwn
import HandS.ExcCtx
import HandS.HotCalls
import HandS.NoneIn
import HandS.ReplaceList
import HandS.SortRule
import PyProof.EqKinds
import PyProof.FactsLen
import PyProof.Conv_bool
import HandS.SortInts
import HandS.SortKw
import KE.DataMinMax
import KE.GoesRaise
import PySem.Challenge.RW_hopkeep_k53_soundness
set_option Elab.async false
set_option linter.all false
set_option maxRecDepth 100000
set_option maxHeartbeats 4000000
namespace Z
open PySem L2

/-! ## the world: F what stands for good, ι where the numbered objects stand -/
structure Wd where
  F : Hp
  ι : List Addr
structure Same (W W' : Wd) : Prop where
  F : L2.Same W.F W'.F
  ι : W.ι <+: W'.ι
theorem Same.refl (W : Wd) : Same W W := ⟨L2.Same.refl _, List.prefix_refl _⟩
theorem Same.trans {W W1 W2 : Wd} (x : Same W W1) (y : Same W1 W2) : Same W W2 := ⟨x.F.trans y.F, x.ι.trans y.ι⟩
theorem Same.at_ {W W' : Wd} (s : Same W W') {n : Nat} {a : Addr} (h : W.ι[n]? = some a) : W'.ι[n]? = some a := by
  obtain ⟨t, e⟩ := s.ι
  rw [← e, List.getElem?_append_left (List.getElem?_eq_some_iff.mp h).1]
  exact h
/-! ## data that no longer changes: its reading in a part F of the heap -/
mutual
inductive Rp (K : PySem.W.Frag) (F : Wd) : V → PyData → Prop
  | non : Rp K F .non .none
  | bl (b : Bool) : Rp K F (.bl b) (.bool b)
  | int (i : Int) : Rp K F (.int i) (.int i)
  | str (x : Str) : Rp K F (.str x) (.str x)
  | lst {a : Addr} {xs : List V} {ds : List PyData} : F.F a = some (.lst xs) → RpAll K F xs ds → Rp K F (.ref a) (.list ds)
  | tup {a : Addr} {xs : List V} {ds : List PyData} : SqT K F.F a xs → RpAll K F xs ds → Rp K F (.ref a) (.tuple ds)
  | obj {a C dx : Addr} {vs : List (Str × V)} {fs : List (PyData × PyData)} : F.F a = some (.ins C dx vs) → RpFs K F vs fs → Rp K F (.ref a) (.dict ((.none, .int (C : Int)) :: fs))
inductive RpAll (K : PySem.W.Frag) (F : Wd) : List V → List PyData → Prop
  | nil : RpAll K F [] []
  | cons {v : V} {vs : List V} {d : PyData} {ds : List PyData} : Rp K F v d → RpAll K F vs ds → RpAll K F (v :: vs) (d :: ds)
inductive RpFs (K : PySem.W.Frag) (F : Wd) : List (Str × V) → List (PyData × PyData) → Prop
  | nil : RpFs K F [] []
  | cons {f : Str} {v : V} {vs : List (Str × V)} {d : PyData} {ds : List (PyData × PyData)} : Rp K F v d → RpFs K F vs ds → RpFs K F ((f, v) :: vs) ((.str f, d) :: ds)
end

/-- what a slot, an item, a field holds: data, an object that may still change (by its number), a list that is read only, a built-in type, an object of the top -/
inductive Ent where
  | d (x : PyData)
  | r (n : Nat)
  | w (x : List PyData)
  | t (n : String)
  | g (a : Addr)

section
variable {K : PySem.W.Frag} {F F' F'' : Wd}
theorem sqT_mono {F F' : Hp} (s : L2.Same F F') {a : Addr} {xs : List V} (h : SqT K F a xs) : SqT K F' a xs := by
  rcases h with (h | ⟨o, h⟩) | h
  · exact .inl (.inl (s _ _ h))
  · exact .inl (.inr ⟨o, s _ _ h⟩)
  · exact .inr h
mutual
theorem Rp.monoF (s : L2.Same F.F F'.F) : ∀ {v : V} {d : PyData}, Rp K F v d → Rp K F' v d
  | _, _, .non => .non
  | _, _, .bl b => .bl b
  | _, _, .int i => .int i
  | _, _, .str x => .str x
  | _, _, .lst h r => .lst (s _ _ h) (RpAll.monoF s r)
  | _, _, .tup h r => .tup (sqT_mono s h) (RpAll.monoF s r)
  | _, _, .obj h r => .obj (s _ _ h) (RpFs.monoF s r)
theorem RpAll.monoF (s : L2.Same F.F F'.F) : ∀ {vs : List V} {ds : List PyData}, RpAll K F vs ds → RpAll K F' vs ds
  | _, _, .nil => .nil
  | _, _, .cons h r => .cons (Rp.monoF s h) (RpAll.monoF s r)
theorem RpFs.monoF (s : L2.Same F.F F'.F) : ∀ {vs : List (Str × V)} {ds : List (PyData × PyData)}, RpFs K F vs ds → RpFs K F' vs ds
  | _, _, .nil => .nil
  | _, _, .cons h r => .cons (Rp.monoF s h) (RpFs.monoF s r)
end
theorem Rp.mono (s : Same F F') {v : V} {d : PyData} (h : Rp K F v d) : Rp K F' v d := h.monoF s.F
theorem RpAll.mono (s : Same F F') {vs : List V} {ds : List PyData} (h : RpAll K F vs ds) : RpAll K F' vs ds := h.monoF s.F
theorem RpFs.mono (s : Same F F') {vs : List (Str × V)} {ds : List (PyData × PyData)} (h : RpFs K F vs ds) : RpFs K F' vs ds := h.monoF s.F
theorem RpAll.length : ∀ {vs : List V} {ds : List PyData}, RpAll K F vs ds → vs.length = ds.length
  | _, _, .nil => rfl
  | _, _, .cons _ r => congrArg Nat.succ (RpAll.length r)
theorem RpAll.get : ∀ {vs : List V} {ds : List PyData} {i : Nat} {v : V} {d : PyData}, RpAll K F vs ds → vs[i]? = some v → ds[i]? = some d → Rp K F v d
  | _, _, _, _, _, .nil, e, _ => by simp at e
  | _, _, 0, _, _, .cons h _, e1, e2 => by
    simp at e1 e2
    rw [← e1, ← e2]
    exact h
  | _, _, i + 1, _, _, .cons _ r, e1, e2 => RpAll.get (i := i) r (by simpa using e1) (by simpa using e2)
theorem RpAll.append : ∀ {vs ws : List V} {ds es : List PyData}, RpAll K F vs ds → RpAll K F ws es → RpAll K F (vs ++ ws) (ds ++ es)
  | _, _, _, _, .nil, q => q
  | _, _, _, _, .cons h r, q => .cons h (RpAll.append r q)
theorem RpAll.take : ∀ {vs : List V} {ds : List PyData} (n : Nat), RpAll K F vs ds → RpAll K F (vs.take n) (ds.take n)
  | _, _, 0, _ => .nil
  | _, _, _ + 1, .nil => .nil
  | _, _, n + 1, .cons h r => .cons h (RpAll.take n r)
theorem RpAll.drop : ∀ {vs : List V} {ds : List PyData} (n : Nat), RpAll K F vs ds → RpAll K F (vs.drop n) (ds.drop n)
  | _, _, 0, r => r
  | _, _, _ + 1, .nil => .nil
  | _, _, n + 1, .cons _ r => RpAll.drop n r
theorem RpAll.exGet {vs : List V} {ds : List PyData} {i : Nat} {d : PyData} (r : RpAll K F vs ds) (e : ds[i]? = some d) : ∃ v, vs[i]? = some v ∧ Rp K F v d := by
  have hi : i < vs.length := by
    rw [r.length]
    exact (List.getElem?_eq_some_iff.mp e).1
  exact ⟨vs[i], List.getElem?_eq_getElem hi, r.get (List.getElem?_eq_getElem hi) e⟩
theorem RpAll.ints : ∀ {vs : List V} {ns : List Int}, RpAll K F vs (ns.map PyData.int) → vs = ns.map V.int
  | _, [], .nil => rfl
  | _, n :: ns, .cons (.int _) r => congrArg (V.int n :: ·) (RpAll.ints r)
theorem RpAll.strs : ∀ {vs : List V} {ns : List Str}, RpAll K F vs (ns.map PyData.str) → vs = ns.map V.str
  | _, [], .nil => rfl
  | _, n :: ns, .cons (.str _) r => congrArg (V.str n :: ·) (RpAll.strs r)
theorem RpAll.bls : ∀ {vs : List V} {ns : List Bool}, RpAll K F vs (ns.map PyData.bool) → vs = ns.map V.bl
  | _, [], .nil => rfl
  | _, n :: ns, .cons (.bl _) r => congrArg (V.bl n :: ·) (RpAll.bls r)
theorem RpAll.ofInts : ∀ (ns : List Int), RpAll K F (ns.map V.int) (ns.map PyData.int)
  | [] => .nil
  | n :: ns => .cons (.int n) (RpAll.ofInts ns)
theorem RpAll.ofStrs : ∀ (ns : List Str), RpAll K F (ns.map V.str) (ns.map PyData.str)
  | [] => .nil
  | n :: ns => .cons (.str n) (RpAll.ofStrs ns)
theorem RpAll.ofBls : ∀ (ns : List Bool), RpAll K F (ns.map V.bl) (ns.map PyData.bool)
  | [] => .nil
  | n :: ns => .cons (.bl n) (RpAll.ofBls ns)

/-- no dict within (no object) -/
def flat : Nat → PyData → Bool
  | 0, _ => false
  | _ + 1, .list xs => false
  | _, .dict _ => false
  | _, _ => true
mutual
def noObj : PyData → Bool
  | .dict _ => false
  | .list xs => noObjs xs
  | .tuple xs => noObjs xs
  | _ => true
def noObjs : List PyData → Bool
  | [] => true
  | x :: r => noObj x && noObjs r
end
mutual
theorem Rp.dp : ∀ {v : V} {d : PyData}, Rp K F v d → noObj d = true → Dp K F.F v d
  | _, _, .non, _ => .non
  | _, _, .bl b, _ => .bl b
  | _, _, .int i, _ => .int i
  | _, _, .str x, _ => .str x
  | _, _, .lst h r, n => .lst (.inl (.inl h)) (RpAll.dp r n)
  | _, _, .tup h r, n => .tup h (RpAll.dp r n)
theorem RpAll.dp : ∀ {vs : List V} {ds : List PyData}, RpAll K F vs ds → noObjs ds = true → DpAll K F.F vs ds
  | _, _, .nil, _ => .nil
  | _, _, .cons h r, n => by
    have n2 : (_ && _) = true := n
    rw [Bool.and_eq_true] at n2
    exact .cons (Rp.dp h n2.1) (RpAll.dp r n2.2)
end
mutual
theorem dp_mono {H H' : Hp} (s : L2.Same H H') : ∀ {v : V} {d : PyData}, Dp K H v d → Dp K H' v d
  | _, _, .non => .non
  | _, _, .bl b => .bl b
  | _, _, .int i => .int i
  | _, _, .str x => .str x
  | _, _, .lst h r => .lst (s.seq h) (dpAll_mono s r)
  | _, _, .tup h r => .tup (sqT_mono s h) (dpAll_mono s r)
theorem dpAll_mono {H H' : Hp} (s : L2.Same H H') : ∀ {vs : List V} {ds : List PyData}, DpAll K H vs ds → DpAll K H' vs ds
  | _, _, .nil => .nil
  | _, _, .cons h r => .cons (dp_mono s h) (dpAll_mono s r)
end
end

/-! ## what a slot holds -/
def RE (K : PySem.W.Frag) (F : Wd) (v : V) : Ent → Prop
  | .d x => Rp K F v x
  | .r n => ∃ a, F.ι[n]? = some a ∧ v = .ref a
  | .t n => v = .ty n
  | .g a => v = .ref a
  | .w xs => ∃ a vs, v = .ref a ∧ SqL K F.F a vs ∧ RpAll K F vs xs
theorem RE.mono {K : PySem.W.Frag} {F F' : Wd} (s : Same F F') {v : V} : ∀ {e : Ent}, RE K F v e → RE K F' v e
  | .d _, h => Rp.mono s h
  | .r _, ⟨a, h, e⟩ => ⟨a, s.at_ h, e⟩
  | .t _, h => h
  | .g _, h => h
  | .w _, ⟨a, vs, e, h, r⟩ => ⟨a, vs, e, s.F.seq h, r.mono s⟩
abbrev REs (K : PySem.W.Frag) (F : Wd) : List V → List Ent → Prop := Paired (RE K F)
theorem REs.mono {K : PySem.W.Frag} {F F' : Wd} (s : Same F F') {vs : List V} {es : List Ent} (h : REs K F vs es) : REs K F' vs es := Paired.mapP h fun _ _ q => q.mono s
theorem REs.length {K : PySem.W.Frag} {F : Wd} {vs : List V} {es : List Ent} (h : REs K F vs es) : vs.length = es.length := Paired.length h
/-- a slot of a frame -/
def RO (K : PySem.W.Frag) (F : Wd) (o : Option V) : Option Ent → Prop
  | none => True
  | some e => ∃ v, o = some v ∧ RE K F v e
abbrev Ga := List (Option Ent)
abbrev EnvOk (K : PySem.W.Frag) (F : Wd) (σ : L2.St) (Γ : Ga) : Prop := Paired (RO K F) σ Γ
theorem EnvOk.mono {K : PySem.W.Frag} {F F' : Wd} (s : Same F F') {σ : L2.St} {Γ : Ga} (h : EnvOk K F σ Γ) : EnvOk K F' σ Γ := Paired.mapP h fun o g q => by
  cases g with
  | none => trivial
  | some e =>
    obtain ⟨v, e1, r⟩ := q
    exact ⟨v, e1, r.mono s⟩
theorem paired_get {α β : Type} {R : α → β → Prop} : ∀ {xs : List α} {ys : List β} {i : Nat} {y : β}, Paired R xs ys → ys[i]? = some y → ∃ x, xs[i]? = some x ∧ R x y
  | _, _, _, _, .nil, e => by simp at e
  | _, _, 0, y, .cons r _, e => by
    simp at e
    subst e
    exact ⟨_, rfl, r⟩
  | _, _, i + 1, y, .cons _ t, e => by
    obtain ⟨x, h1, h2⟩ := paired_get (i := i) (y := y) t (by simpa using e)
    exact ⟨x, by simpa using h1, h2⟩
theorem paired_set {α β : Type} {R : α → β → Prop} {x : α} {y : β} (r : R x y) : ∀ {xs : List α} {ys : List β} (i : Nat), Paired R xs ys → Paired R (xs.set i x) (ys.set i y)
  | _, _, _, .nil => .nil
  | _, _, 0, .cons _ t => .cons r t
  | _, _, i + 1, .cons q t => .cons q (paired_set r i t)
theorem EnvOk.set {K : PySem.W.Frag} {F : Wd} {σ : L2.St} {Γ : Ga} {v : V} {e : Ent} (h : EnvOk K F σ Γ) (i : Nat) (r : RE K F v e) : EnvOk K F (σ.set i (some v)) (Γ.set i (some e)) := paired_set (R := RO K F) (x := some v) (y := some e) ⟨v, rfl, r⟩ i h
theorem EnvOk.drop1 {K : PySem.W.Frag} {F : Wd} {σ : L2.St} {Γ : Ga} (h : EnvOk K F σ Γ) (i : Nat) : EnvOk K F σ (Γ.set i none) := by
  induction h generalizing i with
  | nil => exact .nil
  | cons q t ih =>
    cases i with
    | zero => exact .cons trivial t
    | succ i => exact .cons q (ih i)
theorem EnvOk.wipe1 {K : PySem.W.Frag} {F : Wd} {σ : L2.St} {Γ : Ga} (h : EnvOk K F σ Γ) (i : Nat) (o : Option V) : EnvOk K F (σ.set i o) (Γ.set i none) := paired_set (R := RO K F) (x := o) (y := none) trivial i h
theorem paired_append {α β : Type} {R : α → β → Prop} : ∀ {xs ys : List α} {us ws : List β}, Paired R xs us → Paired R ys ws → Paired R (xs ++ ys) (us ++ ws)
  | _, _, _, _, .nil, s => s
  | _, _, _, _, .cons r t, s => .cons r (paired_append t s)
theorem rpAll_of {K : PySem.W.Frag} {F : Wd} : ∀ {vs : List V} {ds : List PyData}, REs K F vs (ds.map Ent.d) → RpAll K F vs ds
  | _, [], .nil => .nil
  | _, _ :: _, .cons r t => .cons r (rpAll_of t)
theorem res_of {K : PySem.W.Frag} {F : Wd} : ∀ {vs : List V} {ds : List PyData}, RpAll K F vs ds → REs K F vs (ds.map Ent.d)
  | _, _, .nil => .nil
  | _, _, .cons r t => .cons r (res_of t)

/-! ## what may still change -/
/-- a list of data, a list of anything, an instance, a dict of data -/
inductive Mo where
  | lst (ds : List PyData)
  | lsE (es : List Ent)
  | ins (C : Addr) (fs : List (Str × Ent))
  | dic (kvs : List (Key × PyData))
abbrev Ms := List (Option Mo)
abbrev KVs (K : PySem.W.Frag) (F : Wd) (kvs : List (Key × V)) (kds : List (Key × PyData)) : Prop := Paired (fun (p : Key × V) (q : Key × PyData) => p.1 = q.1 ∧ Rp K F p.2 q.2) kvs kds
abbrev FVs (K : PySem.W.Frag) (F : Wd) (vs : List (Str × V)) (fs : List (Str × Ent)) : Prop := Paired (fun (p : Str × V) (q : Str × Ent) => p.1 = q.1 ∧ RE K F p.2 q.2) vs fs
def MoOk (K : PySem.W.Frag) (F : Wd) : Mo → HO → Prop
  | .lst ds, o => ∃ vs, o = .lst vs ∧ RpAll K F vs ds
  | .lsE es, o => ∃ vs, o = .lst vs ∧ REs K F vs es
  | .ins C fs, o => ∃ dx vs, o = .ins C dx vs ∧ FVs K F vs fs
  | .dic kds, o => ∃ kvs, o = .dK kvs ∧ KVs K F kvs kds
theorem MoOk.mono {K : PySem.W.Frag} {F F' : Wd} (s : Same F F') : ∀ {m : Mo} {o : HO}, MoOk K F m o → MoOk K F' m o
  | .lst _, _, ⟨vs, e, h⟩ => ⟨vs, e, RpAll.mono s h⟩
  | .lsE _, _, ⟨vs, e, h⟩ => ⟨vs, e, REs.mono s h⟩
  | .ins _ _, _, ⟨dx, vs, e, h⟩ => ⟨dx, vs, e, Paired.mapP h fun _ _ q => ⟨q.1, q.2.mono s⟩⟩
  | .dic _, _, ⟨vs, e, h⟩ => ⟨vs, e, Paired.mapP h fun _ _ q => ⟨q.1, q.2.mono s⟩⟩
/-- the heap: F stands, M is told, Z is another's -/
structure Mem (K : PySem.W.Frag) (F : Wd) (M : Ms) (Z H : Hp) : Prop where
  sub : L2.Same F.F H
  len : F.ι.length = M.length
  chg : ∀ (n : Nat) (m : Mo), M[n]? = some (some m) → ∃ a o, F.ι[n]? = some a ∧ F.F a = none ∧ H a = some o ∧ MoOk K F m o
  inj : ∀ (n n' : Nat) (m m' : Mo) (a : Addr), M[n]? = some (some m) → M[n']? = some (some m') → F.ι[n]? = some a → F.ι[n']? = some a → n = n'
  out : ∀ a o, Z a = some o → H a = some o ∧ F.F a = none ∧ ∀ (n : Nat) (m : Mo), M[n]? = some (some m) → F.ι[n]? ≠ some a
section
variable {K : PySem.W.Frag} {F : Wd} {H Z : Hp} {M : Ms}
theorem Mem.free (h : Mem K F M Z H) {p : Addr} (n : H p = none) : Z p = none ∧ F.F p = none ∧ ∀ (i : Nat) (m : Mo), M[i]? = some (some m) → F.ι[i]? ≠ some p := by
  refine ⟨?_, h.sub.free n, fun i m t e => ?_⟩
  · cases e : Z p with
    | none => rfl
    | some o =>
      rw [(h.out p o e).1] at n
      cases n
  · obtain ⟨a, o, h1, _, h2, _⟩ := h.chg i m t
    rw [h1] at e
    cases e
    rw [n] at h2
    cases h2
/-- F gets one more, that none of M and Z is -/
theorem Mem.growF (h : Mem K F M Z H) {p : Addr} {o : HO} (nF : F.F p = none) (nZ : Z p = none) (nM : ∀ (i : Nat) (m : Mo), M[i]? = some (some m) → F.ι[i]? ≠ some p) {H' : Hp} (e : H' p = some o) (k : ∀ b, b ≠ p → H' b = H b) : Same F ⟨upd F.F p o, F.ι⟩ ∧ Mem K ⟨upd F.F p o, F.ι⟩ M Z H' := by
  have s : Same F ⟨upd F.F p o, F.ι⟩ := ⟨fun b u q => by
    show upd F.F p o b = some u
    rw [upd_ne (ne_of_none q nF)]
    exact q, List.prefix_refl _⟩
  refine ⟨s, ⟨fun b u q => ?_, h.len, fun n m t => ?_, h.inj, fun a u q => ?_⟩⟩
  · by_cases hb : b = p
    · subst hb
      have q' : upd F.F b o b = some u := q
      rw [upd_same] at q'
      rw [e]
      exact q'
    · have q' : upd F.F p o b = some u := q
      rw [upd_ne hb] at q'
      rw [k b hb]
      exact h.sub b u q'
  · obtain ⟨a, o', h1, h2, h3, h4⟩ := h.chg n m t
    have na : a ≠ p := fun z => nM n m t (by rw [h1, z])
    exact ⟨a, o', h1, by show upd F.F p o a = none; rw [upd_ne na]; exact h2, by rw [k a na]; exact h3, h4.mono s⟩
  · obtain ⟨h1, h2, h3⟩ := h.out a u q
    have na : a ≠ p := ne_of_none q nZ
    exact ⟨by rw [k a na]; exact h1, by show upd F.F p o a = none; rw [upd_ne na]; exact h2, h3⟩
/-- a new object that stands from now on -/
theorem Mem.newF (h : Mem K F M Z H) {p : Addr} {o : HO} (n : H p = none) : Same F ⟨upd F.F p o, F.ι⟩ ∧ Mem K ⟨upd F.F p o, F.ι⟩ M Z (upd H p o) := by
  obtain ⟨nZ, nF, nM⟩ := h.free n
  exact h.growF nF nZ nM upd_same fun b hb => upd_ne hb
/-- H changes where none of F, M, Z is -/
theorem Mem.junk (h : Mem K F M Z H) {p : Addr} {o : HO} (n : H p = none) : Mem K F M Z (upd H p o) := by
  obtain ⟨nZ, nF, nM⟩ := h.free n
  refine ⟨fun b u e => ?_, h.len, fun i m t => ?_, h.inj, fun a u e => ?_⟩
  · have q := h.sub b u e
    rw [upd_ne (ne_of_none q n)]
    exact q
  · obtain ⟨a, o', h1, h2, h3, h4⟩ := h.chg i m t
    exact ⟨a, o', h1, h2, by rw [upd_ne (ne_of_none h3 n)]; exact h3, h4⟩
  · obtain ⟨h1, h2, h3⟩ := h.out a u e
    exact ⟨by rw [upd_ne (ne_of_none h1 n)]; exact h1, h2, h3⟩
theorem same_push (F : Wd) (p : Addr) : Same F ⟨F.F, F.ι ++ [p]⟩ := ⟨L2.Same.refl _, List.prefix_append _ _⟩
theorem snoc_get {α : Type} {l : List α} {x y : α} {n : Nat} (h : (l ++ [x])[n]? = some y) : (n < l.length ∧ l[n]? = some y) ∨ (n = l.length ∧ y = x) := by
  by_cases hn : n < l.length
  · rw [List.getElem?_append_left hn] at h
    exact .inl ⟨hn, h⟩
  · rw [List.getElem?_append_right (by omega)] at h
    obtain ⟨k, hk⟩ : ∃ k, n - l.length = k := ⟨_, rfl⟩
    rw [hk] at h
    cases k with
    | zero =>
      exact .inr ⟨by omega, (Option.some.inj (by simpa using h)).symm⟩
    | succ k => simp at h
theorem snoc_at {α : Type} {l : List α} {x : α} {n : Nat} (e : l.length = n) : (l ++ [x])[n]? = some x := by
  subst e
  simp
/-- one more object that may change -/
theorem Mem.pushM (h : Mem K F M Z H) {p : Addr} {o : HO} {m : Mo} (nF : F.F p = none) (nZ : Z p = none) (nM : ∀ (i : Nat) (m : Mo), M[i]? = some (some m) → F.ι[i]? ≠ some p) {H' : Hp} (e : H' p = some o) (k : ∀ b, b ≠ p → H' b = H b) (ok : MoOk K F m o) :
    Same F ⟨F.F, F.ι ++ [p]⟩ ∧ Mem K ⟨F.F, F.ι ++ [p]⟩ (M ++ [some m]) Z H' ∧ RE K ⟨F.F, F.ι ++ [p]⟩ (.ref p) (.r M.length) := by
  have s := same_push F p
  have at_p : (F.ι ++ [p])[M.length]? = some p := snoc_at h.len
  have old : ∀ i a, i < M.length → (F.ι ++ [p])[i]? = some a → F.ι[i]? = some a := fun i a hi e => by
    rw [List.getElem?_append_left (by rw [h.len]; exact hi)] at e
    exact e
  refine ⟨s, ⟨fun b u q => ?_, by simp [h.len], fun i m' t => ?_, fun i j m1 m2 a t1 t2 e1 e2 => ?_, fun a u q => ?_⟩, ⟨p, at_p, rfl⟩⟩
  · rw [k b (ne_of_none q nF)]
    exact h.sub b u q
  · rcases snoc_get t with ⟨hi, t⟩ | ⟨rfl, t1⟩
    · obtain ⟨a, o', h1, h2, h3, h4⟩ := h.chg i m' t
      have na : a ≠ p := fun z => nM i m' t (by rw [h1, z])
      exact ⟨a, o', s.at_ h1, h2, by rw [k a na]; exact h3, h4.mono s⟩
    · have em : m' = m := Option.some.inj t1
      subst em
      exact ⟨p, o, at_p, nF, e, ok.mono s⟩
  · rcases snoc_get t1 with ⟨hi, t1⟩ | ⟨rfl, t1⟩
    · rcases snoc_get t2 with ⟨hj, t2⟩ | ⟨rfl, t2⟩
      · exact h.inj i j m1 m2 a t1 t2 (old _ _ hi e1) (old _ _ hj e2)
      · rw [at_p] at e2
        cases e2
        exact absurd (old _ _ hi e1) (nM i m1 t1)
    · rcases snoc_get t2 with ⟨hj, t2⟩ | ⟨rfl, t2⟩
      · rw [at_p] at e1
        cases e1
        exact absurd (old _ _ hj e2) (nM j m2 t2)
      · rfl
  · obtain ⟨h1, h2, h3⟩ := h.out a u q
    have na : a ≠ p := ne_of_none q nZ
    refine ⟨by rw [k a na]; exact h1, h2, fun i m' t e' => ?_⟩
    rcases snoc_get t with ⟨hi, t⟩ | ⟨rfl, t⟩
    · exact h3 i m' t (old _ _ hi e')
    · rw [at_p] at e'
      exact na (Option.some.inj e').symm
/-- a new object that may change -/
theorem Mem.newM (h : Mem K F M Z H) {p : Addr} {o : HO} {m : Mo} (n : H p = none) (ok : MoOk K F m o) : Same F ⟨F.F, F.ι ++ [p]⟩ ∧ Mem K ⟨F.F, F.ι ++ [p]⟩ (M ++ [some m]) Z (upd H p o) ∧ RE K ⟨F.F, F.ι ++ [p]⟩ (.ref p) (.r M.length) := by
  obtain ⟨nZ, nF, nM⟩ := h.free n
  exact h.pushM nF nZ nM upd_same (fun b hb => upd_ne hb) ok
/-- a new object of another's -/
theorem Mem.newZ (h : Mem K F M Z H) {p : Addr} {o : HO} (n : H p = none) : Mem K F M (upd Z p o) (upd H p o) := by
  obtain ⟨nZ, nF, nM⟩ := h.free n
  have j := h.junk (o := o) n
  refine ⟨j.sub, j.len, j.chg, j.inj, fun a u e => ?_⟩
  by_cases hb : a = p
  · subst hb
    rw [upd_same] at e
    cases e
    exact ⟨upd_same, nF, nM⟩
  · rw [upd_ne hb] at e
    exact j.out a u e
theorem Mem.writeZ (h : Mem K F M Z H) {p : Addr} {o u : HO} (t : Z p = some u) : Mem K F M (upd Z p o) (upd H p o) := by
  obtain ⟨nH, nF, nM⟩ := h.out p u t
  refine ⟨fun b u e => ?_, h.len, fun i m t => ?_, h.inj, fun a u e => ?_⟩
  · rw [upd_ne (ne_of_none e nF)]
    exact h.sub b u e
  · obtain ⟨a, o', h1, h2, h3, h4⟩ := h.chg i m t
    have na : a ≠ p := fun z => nM i m t (by rw [h1, z])
    exact ⟨a, o', h1, h2, by rw [upd_ne na]; exact h3, h4⟩
  · by_cases hb : a = p
    · subst hb
      rw [upd_same] at e
      cases e
      exact ⟨upd_same, nF, nM⟩
    · rw [upd_ne hb] at e
      obtain ⟨h1, h2, h3⟩ := h.out a u e
      exact ⟨by rw [upd_ne hb]; exact h1, h2, h3⟩
theorem Mem.lessZ {Z' : Hp} (h : Mem K F M Z' H) (s : ∀ a o, Z a = some o → Z' a = some o) : Mem K F M Z H := ⟨h.sub, h.len, h.chg, h.inj, fun a o e => h.out a o (s a o e)⟩
/-- another's object becomes one that stands; the rest of Z as it was -/
theorem Mem.giveZ {p : Addr} {o : HO} (h : Mem K F M (upd Z p o) H) (nZ : Z p = none) : Same F ⟨upd F.F p o, F.ι⟩ ∧ Mem K ⟨upd F.F p o, F.ι⟩ M Z H := by
  obtain ⟨nH, nF, nM⟩ := h.out p o upd_same
  have h0 : Mem K F M Z H := h.lessZ fun a u e => by rw [upd_ne (ne_of_none e nZ)]; exact e
  exact h0.growF nF nZ nM nH fun b _ => rfl
/-- .. one that may change -/
theorem Mem.giveM {p : Addr} {o : HO} {m : Mo} (h : Mem K F M (upd Z p o) H) (nZ : Z p = none) (ok : MoOk K F m o) : Same F ⟨F.F, F.ι ++ [p]⟩ ∧ Mem K ⟨F.F, F.ι ++ [p]⟩ (M ++ [some m]) Z H ∧ RE K ⟨F.F, F.ι ++ [p]⟩ (.ref p) (.r M.length) := by
  obtain ⟨nH, nF, nM⟩ := h.out p o upd_same
  have h0 : Mem K F M Z H := h.lessZ fun a u e => by rw [upd_ne (ne_of_none e nZ)]; exact e
  exact h0.pushM nF nZ nM nH (fun b _ => rfl) ok
theorem set_get {M : Ms} {n i : Nat} {x : Option Mo} {m : Mo} (h : (M.set n x)[i]? = some (some m)) : (i = n ∧ x = some m ∧ n < M.length) ∨ (i ≠ n ∧ M[i]? = some (some m)) := by
  rw [List.getElem?_set] at h
  split at h
  · rename_i e
    subst e
    split at h
    · rename_i hl
      exact .inl ⟨rfl, Option.some.inj h, hl⟩
    · cases h
  · rename_i e
    exact .inr ⟨fun q => e q.symm, h⟩
/-- what may change does -/
theorem Mem.write (h : Mem K F M Z H) {n : Nat} {a : Addr} {o : HO} {m m0 : Mo} (t : M[n]? = some (some m0)) (ea : F.ι[n]? = some a) (ok : MoOk K F m o) : Mem K F (M.set n (some m)) Z (upd H a o) := by
  obtain ⟨a', o0, q1, nF, q3, _⟩ := h.chg n m0 t
  rw [ea] at q1
  cases q1
  refine ⟨fun b u e => ?_, by rw [List.length_set]; exact h.len, fun i m' t' => ?_, fun i j m1 m2 b t1 t2 e1 e2 => ?_, fun b u e => ?_⟩
  · rw [upd_ne (ne_of_none e nF)]
    exact h.sub b u e
  · rcases set_get t' with ⟨rfl, e, _⟩ | ⟨ne, t'⟩
    · cases e
      exact ⟨a, o, ea, nF, upd_same, ok⟩
    · obtain ⟨b, o', h1, h2, h3, h4⟩ := h.chg i m' t'
      have na : b ≠ a := fun z => ne (h.inj i n m' m0 a t' t (by rw [h1, z]) ea)
      exact ⟨b, o', h1, h2, by rw [upd_ne na]; exact h3, h4⟩
  · have g : ∀ (i : Nat) (m' : Mo), (M.set n (some m))[i]? = some (some m') → ∃ m0', M[i]? = some (some m0') := fun i m' t' => by
      rcases set_get t' with ⟨rfl, _, _⟩ | ⟨_, t'⟩
      · exact ⟨m0, t⟩
      · exact ⟨m', t'⟩
    obtain ⟨_, g1⟩ := g i m1 t1
    obtain ⟨_, g2⟩ := g j m2 t2
    exact h.inj i j _ _ b g1 g2 e1 e2
  · obtain ⟨h1, h2, h3⟩ := h.out b u e
    have na : b ≠ a := fun z => h3 n m0 t (by rw [ea, z])
    refine ⟨by rw [upd_ne na]; exact h1, h2, fun i m' t' => ?_⟩
    rcases set_get t' with ⟨rfl, _, _⟩ | ⟨_, t'⟩
    · exact h3 i m0 t
    · exact h3 i m' t'
/-- an object is no longer told: it stands from now on -/
theorem Mem.freeze (h : Mem K F M Z H) {n : Nat} {a : Addr} {o : HO} {m : Mo} (t : M[n]? = some (some m)) (ea : F.ι[n]? = some a) (e : H a = some o) : Same F ⟨upd F.F a o, F.ι⟩ ∧ Mem K ⟨upd F.F a o, F.ι⟩ (M.set n none) Z H := by
  obtain ⟨a', o0, q1, nF, q3, _⟩ := h.chg n m t
  rw [ea] at q1
  cases q1
  have h0 : Mem K F (M.set n none) Z H := by
    have g : ∀ (i : Nat) (m' : Mo), (M.set n none)[i]? = some (some m') → i ≠ n ∧ M[i]? = some (some m') := fun i m' t' => by
      rcases set_get t' with ⟨_, z, _⟩ | z
      · cases z
      · exact z
    exact ⟨h.sub, by rw [List.length_set]; exact h.len, fun i m' t' => h.chg i m' (g i m' t').2, fun i j m1 m2 b t1 t2 => h.inj i j m1 m2 b (g i m1 t1).2 (g j m2 t2).2,
      fun b u q => ⟨(h.out b u q).1, (h.out b u q).2.1, fun i m' t' => (h.out b u q).2.2 i m' (g i m' t').2⟩⟩
  refine h0.growF nF ?_ (fun i m' t' e' => ?_) e fun b _ => rfl
  · cases z : Z a with
    | none => rfl
    | some u => exact absurd ea ((h.out a u z).2.2 n m t)
  · rcases set_get t' with ⟨_, z, _⟩ | ⟨ne, t'⟩
    · cases z
    · exact ne (h.inj i n m' m a t' t e' ea)
theorem Mem.lst (h : Mem K F M Z H) {n : Nat} {ds : List PyData} (t : M[n]? = some (some (.lst ds))) : ∃ a vs, F.ι[n]? = some a ∧ F.F a = none ∧ H a = some (.lst vs) ∧ RpAll K F vs ds := by
  obtain ⟨a, o, h1, h2, h3, vs, rfl, h4⟩ := h.chg n _ t
  exact ⟨a, vs, h1, h2, h3, h4⟩
theorem Mem.lsE (h : Mem K F M Z H) {n : Nat} {es : List Ent} (t : M[n]? = some (some (.lsE es))) : ∃ a vs, F.ι[n]? = some a ∧ F.F a = none ∧ H a = some (.lst vs) ∧ REs K F vs es := by
  obtain ⟨a, o, h1, h2, h3, vs, rfl, h4⟩ := h.chg n _ t
  exact ⟨a, vs, h1, h2, h3, h4⟩
theorem Mem.ins (h : Mem K F M Z H) {n : Nat} {C : Addr} {fs : List (Str × Ent)} (t : M[n]? = some (some (.ins C fs))) : ∃ a dx vs, F.ι[n]? = some a ∧ F.F a = none ∧ H a = some (.ins C dx vs) ∧ FVs K F vs fs := by
  obtain ⟨a, o, h1, h2, h3, dx, vs, rfl, h4⟩ := h.chg n _ t
  exact ⟨a, dx, vs, h1, h2, h3, h4⟩
theorem Mem.dic (h : Mem K F M Z H) {n : Nat} {kds : List (Key × PyData)} (t : M[n]? = some (some (.dic kds))) : ∃ a kvs, F.ι[n]? = some a ∧ F.F a = none ∧ H a = some (.dK kvs) ∧ KVs K F kvs kds := by
  obtain ⟨a, o, h1, h2, h3, kvs, rfl, h4⟩ := h.chg n _ t
  exact ⟨a, kvs, h1, h2, h3, h4⟩
end
end Z
set_option Elab.async false
set_option linter.all false
set_option maxRecDepth 100000
set_option maxHeartbeats 4000000
namespace Z
open PySem L2
/-! ## a part of what may change, numbered anew -/
def Ent.sel (s : List Nat) : Ent → Ent
  | .r n => .r (s.idxOf n)
  | .d x => .d x
  | .w x => .w x
  | .t n => .t n
  | .g a => .g a
def Ent.inS (s : List Nat) : Ent → Prop
  | .r n => n ∈ s
  | _ => True
def Mo.map (f : Ent → Ent) : Mo → Mo
  | .lsE es => .lsE (es.map f)
  | .ins C fs => .ins C (fs.map fun p => (p.1, f p.2))
  | .lst ds => .lst ds
  | .dic kvs => .dic kvs
def Mo.inS (s : List Nat) : Mo → Prop
  | .lsE es => ∀ e ∈ es, e.inS s
  | .ins _ fs => ∀ p ∈ fs, p.2.inS s
  | _ => True
def selM (s : List Nat) (M : Ms) : Ms := s.map fun n => (M[n]?.getD none).map (Mo.map (Ent.sel s))
structure OkS (s : List Nat) (M : Ms) : Prop where
  nd : s.Nodup
  lt : ∀ n ∈ s, n < M.length
  cl : ∀ n ∈ s, ∀ m, M[n]? = some (some m) → m.inS s
def selW (s : List Nat) (F : Wd) : Wd := ⟨F.F, s.map fun n => F.ι[n]?.getD 0⟩
theorem map_at {α β : Type} {f : α → β} {xs : List α} {i : Nat} {y : β} (h : (xs.map f)[i]? = some y) : ∃ x, xs[i]? = some x ∧ y = f x := by
  rw [List.getElem?_map] at h
  cases e : xs[i]? with
  | none => rw [e] at h; cases h
  | some x => rw [e] at h; exact ⟨x, rfl, (Option.some.inj h).symm⟩
theorem at_idx {s : List Nat} {n : Nat} (h : n ∈ s) : s[s.idxOf n]? = some n := by
  have hl := List.idxOf_lt_length_of_mem h
  rw [List.getElem?_eq_getElem hl, List.getElem_idxOf]
theorem idx_at {s : List Nat} (nd : s.Nodup) {i n : Nat} (h : s[i]? = some n) : s.idxOf n = i := by
  obtain ⟨hl, e⟩ := List.getElem?_eq_some_iff.mp h
  rw [← e]
  exact nd.idxOf_getElem i hl
theorem sel_at {s : List Nat} {F : Wd} {n : Nat} {a : Addr} (h : n ∈ s) (e : F.ι[n]? = some a) : (selW s F).ι[s.idxOf n]? = some a := by
  show (s.map fun n => F.ι[n]?.getD 0)[s.idxOf n]? = some a
  rw [List.getElem?_map, at_idx h]
  show some (F.ι[n]?.getD 0) = some a
  rw [e]
  rfl
theorem re_sel {K : PySem.W.Frag} {F : Wd} {s : List Nat} {v : V} : ∀ {e : Ent}, RE K F v e → e.inS s → RE K (selW s F) v (e.sel s)
  | .d _, h, _ => Rp.monoF (F := F) (F' := selW s F) (L2.Same.refl _) h
  | .r n, ⟨a, h, e⟩, i => ⟨a, sel_at i h, e⟩
  | .t _, h, _ => h
  | .g _, h, _ => h
  | .w _, ⟨a, vs, e, h, r⟩, _ => ⟨a, vs, e, h, RpAll.monoF (F := F) (F' := selW s F) (L2.Same.refl _) r⟩
theorem paired_mapR {α β γ : Type} {R : α → β → Prop} {S : α → γ → Prop} (f : β → γ) : ∀ {xs : List α} {ys : List β}, Paired R xs ys → (∀ x y, y ∈ ys → R x y → S x (f y)) → Paired S xs (ys.map f)
  | _, _, .nil, _ => .nil
  | _, _, .cons r t, h => .cons (h _ _ (List.mem_cons_self ..) r) (paired_mapR f t fun x y hy => h x y (List.mem_cons_of_mem _ hy))
theorem mo_sel {K : PySem.W.Frag} {F : Wd} {s : List Nat} : ∀ {m : Mo} {o : HO}, MoOk K F m o → m.inS s → MoOk K (selW s F) (m.map (Ent.sel s)) o
  | .lst _, _, ⟨vs, e, h⟩, _ => ⟨vs, e, RpAll.monoF (F := F) (F' := selW s F) (L2.Same.refl _) h⟩
  | .lsE _, _, ⟨vs, e, h⟩, i => ⟨vs, e, paired_mapR _ h fun x y hy r => re_sel r (i y hy)⟩
  | .ins _ _, _, ⟨dx, vs, e, h⟩, i => ⟨dx, vs, e, paired_mapR _ h fun x y hy r => ⟨r.1, re_sel r.2 (i y hy)⟩⟩
  | .dic _, _, ⟨vs, e, h⟩, _ => ⟨vs, e, Paired.mapP h fun _ _ q => ⟨q.1, Rp.monoF (F := F) (F' := selW s F) (L2.Same.refl _) q.2⟩⟩
theorem selM_at {s : List Nat} {M : Ms} {i : Nat} {m : Mo} (h : (selM s M)[i]? = some (some m)) : ∃ n m', s[i]? = some n ∧ M[n]? = some (some m') ∧ m = m'.map (Ent.sel s) := by
  obtain ⟨n, h1, h2⟩ := map_at h
  cases e : M[n]? with
  | none => rw [e] at h2; cases h2
  | some o =>
    rw [e] at h2
    cases o with
    | none => cases h2
    | some m' => exact ⟨n, m', h1, e, Option.some.inj h2⟩
section
variable {K : PySem.W.Frag} {F : Wd} {H Z : Hp} {M : Ms} {s : List Nat}
open Classical in
/-- what is not chosen belongs to others -/
noncomputable def restZ (s : List Nat) (F : Wd) (M : Ms) (Z H : Hp) : Hp := fun a => if ∃ n m, n ∉ s ∧ M[n]? = some (some m) ∧ F.ι[n]? = some a then H a else Z a
theorem Mem.sel0 (h : Mem K F M Z H) (ok : OkS s M) : Mem K (selW s F) (selM s M) Z H := by
  have ad : ∀ {i : Nat} {m : Mo} {a : Addr}, (selM s M)[i]? = some (some m) → (selW s F).ι[i]? = some a → ∃ n m', s[i]? = some n ∧ M[n]? = some (some m') ∧ F.ι[n]? = some a := by
    intro i m a t e
    obtain ⟨n, m', h1, h2, _⟩ := selM_at t
    obtain ⟨b, o, q1, _⟩ := h.chg n m' h2
    have e' : (s.map fun n => F.ι[n]?.getD 0)[i]? = some a := e
    rw [List.getElem?_map, h1] at e'
    have e2 : F.ι[n]?.getD 0 = a := Option.some.inj e'
    rw [q1] at e2
    refine ⟨n, m', h1, h2, ?_⟩
    rw [q1]
    exact congrArg some e2
  refine ⟨h.sub, by simp [selW, selM], fun i m t => ?_, fun i j m1 m2 a t1 t2 e1 e2 => ?_, fun a o e => ⟨(h.out a o e).1, (h.out a o e).2.1, fun i m t e' => ?_⟩⟩
  · obtain ⟨n, m', h1, h2, rfl⟩ := selM_at t
    have hn : n ∈ s := List.mem_of_getElem? h1
    obtain ⟨a, o, q1, q2, q3, q4⟩ := h.chg n m' h2
    refine ⟨a, o, ?_, q2, q3, mo_sel q4 (ok.cl n hn m' h2)⟩
    have := sel_at (s := s) hn q1
    rwa [idx_at ok.nd h1] at this
  · obtain ⟨n1, _, a1, b1, c1⟩ := ad t1 e1
    obtain ⟨n2, _, a2, b2, c2⟩ := ad t2 e2
    have := h.inj n1 n2 _ _ a b1 b2 c1 c2
    subst this
    rw [← idx_at ok.nd a1, ← idx_at ok.nd a2]
  · obtain ⟨n, m', _, b, c⟩ := ad t e'
    exact (h.out a o e).2.2 n m' b c
theorem Mem.sel (h : Mem K F M Z H) (ok : OkS s M) : Mem K (selW s F) (selM s M) (restZ s F M Z H) H := by
  have h0 := h.sel0 ok
  refine ⟨h0.sub, h0.len, h0.chg, h0.inj, fun a o e => ?_⟩
  unfold restZ at e
  split at e
  · rename_i q
    obtain ⟨n, m, hn, hm, ha⟩ := q
    obtain ⟨b, o', q1, q2, q3, q4⟩ := h.chg n m hm
    rw [ha] at q1
    cases q1
    refine ⟨e, q2, fun i m1 t e1 => ?_⟩
    obtain ⟨n1, m', h1, h2, _⟩ := selM_at t
    have hn1 : n1 ∈ s := List.mem_of_getElem? h1
    obtain ⟨c, o2, q5, _⟩ := h.chg n1 m' h2
    have e2 := sel_at (s := s) hn1 q5
    rw [idx_at ok.nd h1, e1] at e2
    cases e2
    exact hn (h.inj n n1 m m' a hm h2 ha q5 ▸ hn1)
  · exact h0.out a o e
/-! ### and back -/
def Ent.back (s : List Nat) (k : Nat) : Ent → Ent
  | .r i => .r (s[i]?.getD (k + (i - s.length)))
  | .d x => .d x
  | .w x => .w x
  | .t n => .t n
  | .g a => .g a
def putM : List Nat → Ms → Ms → Ms
  | n :: s, m :: ms, M => putM s ms (M.set n m)
  | _, _, M => M
def backM (s : List Nat) (k : Nat) (M2 : Ms) : Ms := M2.map (Option.map (Mo.map (Ent.back s k)))
def mergeM (M : Ms) (s : List Nat) (M2 : Ms) : Ms := putM s (backM s M.length M2) M ++ (backM s M.length M2).drop s.length
def backW (F : Wd) (s : List Nat) (F2 : Wd) : Wd := ⟨F2.F, F.ι ++ F2.ι.drop s.length⟩
theorem putM_len : ∀ (s : List Nat) (ms M : Ms), (putM s ms M).length = M.length
  | [], _, _ => by simp [putM]
  | _ :: _, [], _ => by simp [putM]
  | n :: s, m :: ms, M => by
    show (putM s ms (M.set n m)).length = _
    rw [putM_len s ms, List.length_set]
theorem putM_out : ∀ {s : List Nat} {ms M : Ms} {n : Nat}, n ∉ s → (putM s ms M)[n]? = M[n]?
  | [], _, _, _, _ => by simp [putM]
  | _ :: _, [], _, _, _ => by simp [putM]
  | k :: s, m :: ms, M, n, h => by
    show (putM s ms (M.set k m))[n]? = _
    rw [putM_out (fun q => h (List.mem_cons_of_mem _ q)), List.getElem?_set_ne (fun q => h (by rw [← q]; exact List.mem_cons_self ..))]
theorem putM_in : ∀ {s : List Nat} {ms M : Ms} {i n : Nat} {m : Option Mo}, s.Nodup → s[i]? = some n → n < M.length → ms[i]? = some m → (putM s ms M)[n]? = some m
  | [], _, _, _, _, _, _, h, _, _ => by simp at h
  | _ :: _, [], _, _, _, _, _, _, _, h => by simp at h
  | k :: s, m0 :: ms, M, 0, n, m, nd, h1, hl, h2 => by
    simp at h1 h2
    subst h1
    subst h2
    show (putM s ms (M.set k m0))[k]? = _
    rw [putM_out (List.nodup_cons.mp nd).1, List.getElem?_set_self hl]
  | k :: s, m0 :: ms, M, i + 1, n, m, nd, h1, hl, h2 => by
    show (putM s ms (M.set k m0))[n]? = _
    exact putM_in (List.nodup_cons.mp nd).2 (by simpa using h1) (by rw [List.length_set]; exact hl) (by simpa using h2)
theorem same_back {F F2 : Wd} (h : Same (selW s F) F2) : Same F (backW F s F2) := ⟨h.F, List.prefix_append _ _⟩
theorem back_at {F F2 : Wd} {i : Nat} {a : Addr} {k : Nat} (hk : F.ι.length = k) (h : Same (selW s F) F2) (hs : ∀ n ∈ s, n < k) (e : F2.ι[i]? = some a) : (backW F s F2).ι[s[i]?.getD (k + (i - s.length))]? = some a := by
  have hl : (selW s F).ι.length = s.length := by simp [selW]
  by_cases hi : i < s.length
  · rw [List.getElem?_eq_getElem hi]
    have e1 : (selW s F).ι[i]? = some (F.ι[s[i]]?.getD 0) := by
      show (s.map fun n => F.ι[n]?.getD 0)[i]? = _
      rw [List.getElem?_map, List.getElem?_eq_getElem hi]
      rfl
    have e2 := h.at_ e1
    rw [e] at e2
    have hn := hs s[i] (List.getElem_mem hi)
    show (F.ι ++ F2.ι.drop s.length)[s[i]]? = some a
    rw [List.getElem?_append_left (by omega), List.getElem?_eq_getElem (by omega)]
    rw [List.getElem?_eq_getElem (by omega)] at e2
    exact e2.symm
  · rw [List.getElem?_eq_none (l := s) (by omega)]
    show (F.ι ++ F2.ι.drop s.length)[k + (i - s.length)]? = some a
    rw [List.getElem?_append_right (by omega), hk, List.getElem?_drop]
    rw [show s.length + (k + (i - s.length) - k) = i by omega]
    exact e
theorem re_back {F F2 : Wd} {k : Nat} (hk : F.ι.length = k) (h : Same (selW s F) F2) (hs : ∀ n ∈ s, n < k) {v : V} : ∀ {e : Ent}, RE K F2 v e → RE K (backW F s F2) v (e.back s k)
  | .d _, q => Rp.monoF (F := F2) (F' := backW F s F2) (L2.Same.refl _) q
  | .r n, ⟨a, q, e⟩ => ⟨a, back_at hk h hs q, e⟩
  | .t _, q => q
  | .g _, q => q
  | .w _, ⟨a, vs, e, q, r⟩ => ⟨a, vs, e, q, RpAll.monoF (F := F2) (F' := backW F s F2) (L2.Same.refl _) r⟩
theorem mo_back {F F2 : Wd} {k : Nat} (hk : F.ι.length = k) (h : Same (selW s F) F2) (hs : ∀ n ∈ s, n < k) : ∀ {m : Mo} {o : HO}, MoOk K F2 m o → MoOk K (backW F s F2) (m.map (Ent.back s k)) o
  | .lst _, _, ⟨vs, e, q⟩ => ⟨vs, e, RpAll.monoF (F := F2) (F' := backW F s F2) (L2.Same.refl _) q⟩
  | .lsE _, _, ⟨vs, e, q⟩ => ⟨vs, e, paired_mapR _ q fun x y _ r => re_back hk h hs r⟩
  | .ins _ _, _, ⟨dx, vs, e, q⟩ => ⟨dx, vs, e, paired_mapR _ q fun x y _ r => ⟨r.1, re_back hk h hs r.2⟩⟩
  | .dic _, _, ⟨vs, e, q⟩ => ⟨vs, e, Paired.mapP q fun _ _ q => ⟨q.1, Rp.monoF (F := F2) (F' := backW F s F2) (L2.Same.refl _) q.2⟩⟩
theorem backM_at {k i : Nat} {M2 : Ms} {o : Option Mo} (h : M2[i]? = some o) : (backM s k M2)[i]? = some (o.map (Mo.map (Ent.back s k))) := by
  unfold backM
  rw [List.getElem?_map, h]
  rfl
theorem backM_from {k i : Nat} {M2 : Ms} {m : Mo} (h : (backM s k M2)[i]? = some (some m)) : ∃ m', M2[i]? = some (some m') ∧ m = m'.map (Ent.back s k) := by
  obtain ⟨o, h1, h2⟩ := map_at h
  cases o with
  | none => cases h2
  | some m' => exact ⟨m', h1, Option.some.inj h2⟩
/-- where a number of the merged memory comes from -/
theorem merge_from (ok : OkS s M) {M2 : Ms} (l2 : s.length ≤ M2.length) {n : Nat} {m : Mo} (h : (mergeM M s M2)[n]? = some (some m)) :
    (n ∉ s ∧ n < M.length ∧ M[n]? = some (some m)) ∨ ∃ i m', M2[i]? = some (some m') ∧ m = m'.map (Ent.back s M.length) ∧ n = s[i]?.getD (M.length + (i - s.length)) := by
  unfold mergeM at h
  by_cases hn : n < M.length
  · rw [List.getElem?_append_left (by rw [putM_len]; exact hn)] at h
    by_cases hs : n ∈ s
    · have hi := at_idx hs
      have hil := List.idxOf_lt_length_of_mem hs
      have e2 : M2[s.idxOf n]? = some M2[s.idxOf n] := List.getElem?_eq_getElem (by omega)
      rw [putM_in ok.nd hi hn (backM_at e2)] at h
      cases e3 : M2[s.idxOf n] with
      | none => rw [e3] at h; cases h
      | some m' =>
        rw [e3] at h
        refine .inr ⟨s.idxOf n, m', by rw [e2, e3], (Option.some.inj (Option.some.inj h)).symm, ?_⟩
        rw [hi]
        rfl
    · rw [putM_out hs] at h
      exact .inl ⟨hs, hn, h⟩
  · rw [List.getElem?_append_right (by rw [putM_len]; omega), putM_len, List.getElem?_drop] at h
    obtain ⟨m', h1, h2⟩ := backM_from h
    refine .inr ⟨_, m', h1, h2, ?_⟩
    rw [List.getElem?_eq_none (by omega)]
    show n = M.length + (s.length + (n - M.length) - s.length)
    omega
theorem Mem.back {F2 : Wd} {M2 : Ms} {H2 : Hp} (h : Mem K F M Z H) (ok : OkS s M) (w : Same (selW s F) F2) (h2 : Mem K F2 M2 (restZ s F M Z H) H2) : Mem K (backW F s F2) (mergeM M s M2) Z H2 := by
  have hk := h.len
  have hsl : (selW s F).ι.length = s.length := by simp [selW]
  have l2 : s.length ≤ M2.length := by
    rw [← h2.len, ← hsl]
    exact w.ι.length_le
  have sb := same_back w
  have zs : ∀ n m a, n ∉ s → M[n]? = some (some m) → F.ι[n]? = some a → restZ s F M Z H a = H a := fun n m a h1 h2 h3 => by
    unfold restZ
    rw [if_pos ⟨n, m, h1, h2, h3⟩]
  refine ⟨h2.sub, ?_, fun n m t => ?_, fun n n' m m' a t t' e e' => ?_, fun a o e => ?_⟩
  · show (F.ι ++ F2.ι.drop s.length).length = _
    unfold mergeM
    rw [List.length_append, List.length_append, putM_len, List.length_drop, List.length_drop, h.len, h2.len]
    simp [backM]
  · rcases merge_from ok l2 t with ⟨hs, hn, t1⟩ | ⟨i, m', t1, rfl, rfl⟩
    · obtain ⟨a, o, q1, q2, q3, q4⟩ := h.chg n m t1
      obtain ⟨r1, r2, _⟩ := h2.out a o (by rw [zs n m a hs t1 q1]; exact q3)
      exact ⟨a, o, sb.at_ q1, r2, r1, q4.mono sb⟩
    · obtain ⟨a, o, q1, q2, q3, q4⟩ := h2.chg i m' t1
      exact ⟨a, o, back_at hk w ok.lt q1, q2, q3, mo_back hk w ok.lt q4⟩
  · -- the addresses tell the numbers apart
    have old : ∀ n m, n ∉ s → M[n]? = some (some m) → (backW F s F2).ι[n]? = some a → F.ι[n]? = some a := fun n m _ t e => by
      obtain ⟨b, o, q1, _⟩ := h.chg n m t
      rw [sb.at_ q1] at e
      rw [q1]
      exact e
    have cross : ∀ n m i m', n ∉ s → M[n]? = some (some m) → F.ι[n]? = some a → M2[i]? = some (some m') → F2.ι[i]? = some a → False := fun n m i m' h1 t1 e1 t2 e2 => by
      obtain ⟨b, o, q1, q2, q3, q4⟩ := h.chg n m t1
      rw [e1] at q1
      cases q1
      exact (h2.out a o (by rw [zs n m a h1 t1 e1]; exact q3)).2.2 i m' t2 e2
    have fromB : ∀ i m', M2[i]? = some (some m') → (backW F s F2).ι[s[i]?.getD (M.length + (i - s.length))]? = some a → F2.ι[i]? = some a := fun i m' t e => by
      obtain ⟨b, o, q1, _⟩ := h2.chg i m' t
      rw [back_at hk w ok.lt q1] at e
      rw [q1]
      exact e
    rcases merge_from ok l2 t with ⟨hs, hn, t1⟩ | ⟨i, m1, t1, _, rfl⟩
    · rcases merge_from ok l2 t' with ⟨hs', hn', t1'⟩ | ⟨j, m2, t1', _, rfl⟩
      · exact h.inj n n' m m' a t1 t1' (old n m hs t1 e) (old n' m' hs' t1' e')
      · exact (cross n m j m2 hs t1 (old n m hs t1 e) t1' (fromB j m2 t1' e')).elim
    · rcases merge_from ok l2 t' with ⟨hs', hn', t1'⟩ | ⟨j, m2, t1', _, rfl⟩
      · exact (cross n' m' i m1 hs' t1' (old n' m' hs' t1' e') t1 (fromB i m1 t1 e)).elim
      · rw [h2.inj i j m1 m2 a t1 t1' (fromB i m1 t1 e) (fromB j m2 t1' e')]
  · have zz : restZ s F M Z H a = some o := by
      unfold restZ
      rw [if_neg, e]
      rintro ⟨n, m, _, t, q⟩
      exact (h.out a o e).2.2 n m t q
    obtain ⟨r1, r2, r3⟩ := h2.out a o zz
    refine ⟨r1, r2, fun n m t q => ?_⟩
    rcases merge_from ok l2 t with ⟨hs, hn, t1⟩ | ⟨i, m', t1, _, rfl⟩
    · obtain ⟨b, o', q1, _⟩ := h.chg n m t1
      rw [sb.at_ q1] at q
      exact (h.out a o e).2.2 n m t1 (by rw [q1]; exact q)
    · obtain ⟨b, o', q1, _⟩ := h2.chg i m' t1
      rw [back_at hk w ok.lt q1] at q
      exact r3 i m' t1 (by rw [q1]; exact q)
end
end Z
set_option Elab.async false
set_option linter.all false
set_option maxRecDepth 100000
set_option maxHeartbeats 4000000
namespace Z
open PySem PySem.Spec L2
/-! ## the judgements over data -/
/-- what is wanted of an exception: its class, its fields -/
abbrev Xa := Value → List (Str × Ent) → Ms → Prop
/-- E, X: the wish of an exception, over the heap, over data (at the frame's slots); G: what is known of the part of the heap that stands -/
structure Jx where
  K : PySem.W.Frag
  E : WX
  X : Ga → Xa
  G : Wd → Prop := fun _ => True
/-- an exception's fields: its dict stands -/
def XdOk (K : PySem.W.Frag) (F : Wd) : Option Addr → List (Str × Ent) → Prop
  | none, xs => xs = []
  | some d, xs => ∃ vs, F.F d = some (.xd vs) ∧ Paired (fun (p : Str × V) (q : Str × Ent) => p.1 = q.1 ∧ RE K F p.2 q.2) vs xs
/-- for a def as a whole -/
def XRc (K : PySem.W.Frag) (E : XK) (X : Xa) (F : Wd) (Z : Hp) : Prop := ∀ F' H' M' c od xs, Same F F' → Mem K F' M' Z H' → X c xs M' → XdOk K F' od xs → E c od H'
structure XR (J : Jx) (F : Wd) (Z : Hp) : Prop where
  run : ∀ F' H' M' σ Γ c od xs, Same F F' → Mem J.K F' M' Z H' → EnvOk J.K F' σ Γ → J.X Γ c xs M' → XdOk J.K F' od xs → J.E c od σ H'
  g : ∀ F', Same F F' → J.G F'
theorem XR.mono {J : Jx} {F F' : Wd} {Z : Hp} (x : XR J F Z) (s : Same F F') : XR J F' Z := ⟨fun F2 H2 M2 σ Γ c od xs s2 m e q o => x.run F2 H2 M2 σ Γ c od xs (s.trans s2) m e q o, fun F2 s2 => x.g F2 (s.trans s2)⟩
theorem XR.at_ {J : Jx} {F : Wd} {Z : Hp} (x : XR J F Z) {σ : L2.St} {Γ : Ga} (en : EnvOk J.K F σ Γ) : XRc J.K (WE J.E σ) (J.X Γ) F Z := fun F' H' M' c od xs s m q o => x.run F' H' M' σ Γ c od xs s m (en.mono s) q o
/-- a def's own wish -/
abbrev defJ (K : PySem.W.Frag) (E : XK) (X : Xa) : Jx := ⟨K, fun c d _ H => E c d H, fun _ => X, fun _ => True⟩
theorem xr_def {K : PySem.W.Frag} {E : XK} {X : Xa} {F : Wd} {Z : Hp} (h : XRc K E X F Z) : XR (defJ K E X) F Z := ⟨fun F' H' M' σ Γ c od xs s m e q o => h F' H' M' c od xs s m q o, fun _ _ => trivial⟩
/-- an expression: its value, what may change -/
def Wx (J : Jx) (te : TE) (Γ : Ga) (M : Ms) (P : Ent → Ms → Prop) : Prop := ∀ F Z σ H, EnvOk J.K F σ Γ → Mem J.K F M Z H → XR J F Z → ∀ Q : VK,
  (∀ v F' H' e M', Same F F' → Mem J.K F' M' Z H' → RE J.K F' v e → P e M' → Q v H') → te σ H Q
def WA (J : Jx) (te : TA) (Γ : Ga) (M : Ms) (P : List Ent → Ms → Prop) : Prop := ∀ F Z σ H, EnvOk J.K F σ Γ → Mem J.K F M Z H → XR J F Z → ∀ Q : List V → Hp → Prop,
  (∀ vs F' H' es M', Same F F' → Mem J.K F' M' Z H' → REs J.K F' vs es → P es M' → Q vs H') → te σ H Q
def WT (J : Jx) (te : TT) (Γ : Ga) (M : Ms) (P : Bool → Ms → Prop) : Prop := ∀ F Z σ H, EnvOk J.K F σ Γ → Mem J.K F M Z H → XR J F Z → ∀ Q : Bool → Hp → Prop,
  (∀ b F' H' M', Same F F' → Mem J.K F' M' Z H' → P b M' → Q b H') → te σ H Q
/-- operations on values -/
def O2 (J : Jx) (r : R2) (x y : Ent) (M : Ms) (P : Ent → Ms → Prop) : Prop := ∀ F Z H v u, Mem J.K F M Z H → XR J F Z → RE J.K F v x → RE J.K F u y → ∀ Q : VK,
  (∀ v F' H' e M', Same F F' → Mem J.K F' M' Z H' → RE J.K F' v e → P e M' → Q v H') → r v u H Q
def O1 (J : Jx) (r : V → Hp → VK → Prop) (x : Ent) (M : Ms) (P : Ent → Ms → Prop) : Prop := ∀ F Z H v, Mem J.K F M Z H → XR J F Z → RE J.K F v x → ∀ Q : VK,
  (∀ v F' H' e M', Same F F' → Mem J.K F' M' Z H' → RE J.K F' v e → P e M' → Q v H') → r v H Q
def ON (J : Jx) (r : List V → Hp → VK → Prop) (xs : List Ent) (M : Ms) (P : Ent → Ms → Prop) : Prop := ∀ F Z H vs, Mem J.K F M Z H → XR J F Z → REs J.K F vs xs → ∀ Q : VK,
  (∀ v F' H' e M', Same F F' → Mem J.K F' M' Z H' → RE J.K F' v e → P e M' → Q v H') → r vs H Q
def OM (J : Jx) (r : V → List V → Hp → VK → Prop) (x : Ent) (xs : List Ent) (M : Ms) (P : Ent → Ms → Prop) : Prop := ∀ F Z H v vs, Mem J.K F M Z H → XR J F Z → RE J.K F v x → REs J.K F vs xs → ∀ Q : VK,
  (∀ v F' H' e M', Same F F' → Mem J.K F' M' Z H' → RE J.K F' v e → P e M' → Q v H') → r v vs H Q
section
variable {J : Jx} {Γ : Ga} {M : Ms} {P P' : Ent → Ms → Prop} {ta tb tc te : TE} {t u : TT}
theorem Wx.imp (h : Wx J te Γ M P) (k : ∀ e M', P e M' → P' e M') : Wx J te Γ M P' := fun F Z σ H en m x Q q => h F Z σ H en m x Q fun v F' H' e M' s m' r p => q v F' H' e M' s m' r (k e M' p)
/-! ### names, constants -/
theorem w_var {i : Nat} {e : Ent} (h : Γ[i]? = some (some e)) (p : P e M) : Wx J (tVar i) Γ M P := fun F Z σ H en m x Q q => by
  obtain ⟨o, e1, v, e2, r⟩ := paired_get en h
  subst e2
  exact ⟨v, e1, q v F H e M (Same.refl F) m r p⟩
theorem w_int {i : Int} (p : P (.d (.int i)) M) : Wx J (tC (.int i)) Γ M P := fun F Z σ H en m x Q q => q _ F H (.d (.int i)) M (Same.refl F) m (Rp.int i) p
theorem w_bl {b : Bool} (p : P (.d (.bool b)) M) : Wx J (tC (.bl b)) Γ M P := fun F Z σ H en m x Q q => q _ F H (.d (.bool b)) M (Same.refl F) m (Rp.bl b) p
theorem w_non (p : P (.d .none) M) : Wx J (tC .non) Γ M P := fun F Z σ H en m x Q q => q _ F H (.d .none) M (Same.refl F) m Rp.non p
theorem w_str {s : Str} (p : P (.d (.str s)) M) : Wx J (tC (.str s)) Γ M P := fun F Z σ H en m x Q q => q _ F H (.d (.str s)) M (Same.refl F) m (Rp.str s) p
theorem w_adr {a : Addr} (p : P (.g a) M) : Wx J (tC (.ref a)) Γ M P := fun F Z σ H en m x Q q => q _ F H (.g a) M (Same.refl F) m rfl p
theorem w_ty {n : String} (p : P (.t n) M) : Wx J (tC (.ty n)) Γ M P := fun F Z σ H en m x Q q => q _ F H (.t n) M (Same.refl F) m rfl p
/-! ### operators -/
theorem w_op {r : R2} (h : Wx J ta Γ M fun x M1 => Wx J tb Γ M1 fun y M2 => O2 J r x y M2 P) : Wx J (tOp r ta tb) Γ M P := fun F Z σ H en m x Q q =>
  h F Z σ H en m x _ fun v F1 H1 e1 M1 s1 m1 r1 h1 => h1 F1 Z σ H1 (en.mono s1) m1 (x.mono s1) _ fun u F2 H2 e2 M2 s2 m2 r2 h2 =>
    h2 F2 Z H2 v u m2 (x.mono (s1.trans s2)) (r1.mono s2) r2 Q fun w F3 H3 e3 M3 s3 m3 r3 p => q w F3 H3 e3 M3 ((s1.trans s2).trans s3) m3 r3 p
theorem w_un {r : V → Hp → VK → Prop} (h : Wx J ta Γ M fun x M1 => O1 J r x M1 P) : Wx J (tUn r ta) Γ M P := fun F Z σ H en m x Q q =>
  h F Z σ H en m x _ fun v F1 H1 e1 M1 s1 m1 r1 h1 => h1 F1 Z H1 v m1 (x.mono s1) r1 Q fun w F3 H3 e3 M3 s3 m3 r3 p => q w F3 H3 e3 M3 (s1.trans s3) m3 r3 p
theorem w_chain {r r' : R2} (h : Wx J ta Γ M fun x M1 => Wx J tb Γ M1 fun y M2 => O2 J r x y M2 fun z M3 => ∃ k, z = .d (.bool k) ∧ (k = true → Wx J tc Γ M3 fun w M4 => O2 J r' y w M4 P) ∧ (k = false → P (.d (.bool false)) M3)) :
    Wx J (tChain r r' ta tb tc) Γ M P := fun F Z σ H en m x Q q =>
  h F Z σ H en m x _ fun v F1 H1 e1 M1 s1 m1 r1 h1 => h1 F1 Z σ H1 (en.mono s1) m1 (x.mono s1) _ fun u F2 H2 e2 M2 s2 m2 r2 h2 =>
    h2 F2 Z H2 v u m2 (x.mono (s1.trans s2)) (r1.mono s2) r2 _ fun w F3 H3 e3 M3 s3 m3 r3 ⟨k, ek, kt, kf⟩ => by
      subst ek
      cases r3 with
      | bl b =>
        refine ⟨k, rfl, ?_⟩
        have s13 := (s1.trans s2).trans s3
        cases k with
        | true =>
          rw [if_pos rfl]
          exact kt rfl F3 Z σ H3 (en.mono s13) m3 (x.mono s13) _ fun u4 F4 H4 e4 M4 s4 m4 r4 h4 => h4 F4 Z H4 u u4 m4 (x.mono (s13.trans s4)) (r2.mono (s3.trans s4)) r4 Q fun w F5 H5 e5 M5 s5 m5 r5 p => q w F5 H5 e5 M5 ((s13.trans s4).trans s5) m5 r5 p
        | false =>
          rw [if_neg (by decide)]
          exact q _ F3 H3 (.d (.bool false)) M3 s13 m3 (Rp.bl false) (kf rfl)
theorem w_if (h : WT J t Γ M fun b M1 => (b = true → Wx J ta Γ M1 P) ∧ (b = false → Wx J tb Γ M1 P)) : Wx J (tIf t ta tb) Γ M P := fun F Z σ H en m x Q q =>
  h F Z σ H en m x _ fun b F1 H1 M1 s1 m1 ⟨h1, h2⟩ => by
    cases b with
    | true =>
      show ta σ H1 Q
      exact h1 rfl F1 Z σ H1 (en.mono s1) m1 (x.mono s1) Q fun w F3 H3 e3 M3 s3 m3 r3 p => q w F3 H3 e3 M3 (s1.trans s3) m3 r3 p
    | false =>
      show tb σ H1 Q
      exact h2 rfl F1 Z σ H1 (en.mono s1) m1 (x.mono s1) Q fun w F3 H3 e3 M3 s3 m3 r3 p => q w F3 H3 e3 M3 (s1.trans s3) m3 r3 p
/-! ### truth -/
/-- the truth of a value -/
def Tru (M : Ms) : Ent → Bool → Prop
  | .d .none, k => k = false
  | .d (.bool b), k => k = b
  | .d (.int i), k => k = (i != 0)
  | .d (.str s), k => s.length ≤ sizeLine ∧ k = ((s.length : Int) != 0)
  | .d (.list xs), k => k = !xs.isEmpty
  | .d (.tuple xs), k => k = !xs.isEmpty
  | .w xs, k => k = !xs.isEmpty
  | .r n, k => (∃ xs, M[n]? = some (some (.lst xs)) ∧ k = !xs.isEmpty) ∨ (∃ xs, M[n]? = some (some (.lsE xs)) ∧ k = !xs.isEmpty) ∨ ∃ xs, M[n]? = some (some (.dic xs)) ∧ k = !xs.isEmpty
  | _, _ => False
theorem isEmpty_of_length {α β : Type} {xs : List α} {ys : List β} (h : xs.length = ys.length) : xs.isEmpty = ys.isEmpty := by
  cases xs <;> cases ys <;> simp at h ⊢
theorem tru_ok {K : PySem.W.Frag} {F : Wd} {Z H : Hp} {v : V} {e : Ent} {k : Bool} (m : Mem K F M Z H) (r : RE K F v e) (h : Tru M e k) : TruV K v H k := by
  cases e with
  | d x =>
    cases r with
    | non => exact h
    | bl b => exact h
    | int i => exact h
    | str s => exact h
    | lst e rs => exact .inl ⟨_, .inl (.inl (m.sub _ _ e)), by rw [isEmpty_of_length rs.length]; exact h⟩
    | tup e rs => exact .inr (.inl ⟨_, sqT_mono m.sub e, by rw [isEmpty_of_length rs.length]; exact h⟩)
    | obj _ _ => exact (h : False).elim
  | r n =>
    obtain ⟨b, eb, rfl⟩ := r
    rcases h with ⟨xs, e1, e2⟩ | ⟨xs, e1, e2⟩ | ⟨xs, e1, e2⟩
    · obtain ⟨a, vs, h0, _, h1, h2⟩ := m.lst e1
      rw [eb] at h0
      cases h0
      exact .inl ⟨vs, .inl (.inl h1), by rw [isEmpty_of_length h2.length]; exact e2⟩
    · obtain ⟨a, vs, h0, _, h1, h2⟩ := m.lsE e1
      rw [eb] at h0
      cases h0
      exact .inl ⟨vs, .inl (.inl h1), by rw [isEmpty_of_length h2.length]; exact e2⟩
    · obtain ⟨a, vs, h0, _, h1, h2⟩ := m.dic e1
      rw [eb] at h0
      cases h0
      exact .inr (.inr ⟨vs, h1, by rw [isEmpty_of_length (Paired.length h2)]; exact e2⟩)
  | t n => exact (h : False).elim
  | g n => exact (h : False).elim
  | w xs =>
    obtain ⟨a, vs, rfl, e1, rs⟩ := r
    exact .inl ⟨vs, m.sub.seq e1, by rw [isEmpty_of_length rs.length]; exact h⟩
end
section
variable {J : Jx} {Γ : Ga} {M : Ms} {P : Ent → Ms → Prop} {B : Bool → Ms → Prop} {ta tb tc te : TE} {t u : TT}
theorem wt_test (h : Wx J te Γ M fun x M1 => ∃ b, x = .d (.bool b) ∧ B b M1) : WT J (tTest te) Γ M B := fun F Z σ H en m x Q q =>
  h F Z σ H en m x _ fun v F1 H1 e1 M1 s1 m1 r1 ⟨b, eb, hb⟩ => by
    subst eb
    cases r1
    exact ⟨b, rfl, q b F1 H1 M1 s1 m1 hb⟩
theorem wt_val (h : Wx J te Γ M fun x M1 => ∃ b, x = .d (.bool b) ∧ B b M1) : WT J (tB te) Γ M B := fun F Z σ H en m x Q q =>
  h F Z σ H en m x _ fun v F1 H1 e1 M1 s1 m1 r1 ⟨b, eb, hb⟩ => by
    subst eb
    cases r1
    exact ⟨b, rfl, q b F1 H1 M1 s1 m1 hb⟩
theorem wt_tru (h : Wx J te Γ M fun x M1 => ∃ b, Tru M1 x b ∧ B b M1) : WT J (tTru J.K te) Γ M B := fun F Z σ H en m x Q q =>
  h F Z σ H en m x _ fun v F1 H1 e1 M1 s1 m1 r1 ⟨b, eb, hb⟩ => ⟨b, tru_ok m1 r1 eb, q b F1 H1 M1 s1 m1 hb⟩
theorem wt_and (h : WT J t Γ M fun b M1 => (b = true → WT J u Γ M1 B) ∧ (b = false → B false M1)) : WT J (tAnd t u) Γ M B := fun F Z σ H en m x Q q =>
  h F Z σ H en m x _ fun b F1 H1 M1 s1 m1 ⟨h1, h2⟩ => by
    cases b with
    | true =>
      show u σ H1 Q
      exact h1 rfl F1 Z σ H1 (en.mono s1) m1 (x.mono s1) Q fun w F3 H3 M3 s3 m3 p => q w F3 H3 M3 (s1.trans s3) m3 p
    | false =>
      show Q false H1
      exact q _ F1 H1 M1 s1 m1 (h2 rfl)
theorem wt_or (h : WT J t Γ M fun b M1 => (b = false → WT J u Γ M1 B) ∧ (b = true → B true M1)) : WT J (tOr t u) Γ M B := fun F Z σ H en m x Q q =>
  h F Z σ H en m x _ fun b F1 H1 M1 s1 m1 ⟨h1, h2⟩ => by
    cases b with
    | false =>
      show u σ H1 Q
      exact h1 rfl F1 Z σ H1 (en.mono s1) m1 (x.mono s1) Q fun w F3 H3 M3 s3 m3 p => q w F3 H3 M3 (s1.trans s3) m3 p
    | true =>
      show Q true H1
      exact q _ F1 H1 M1 s1 m1 (h2 rfl)
theorem wt_not (h : WT J t Γ M fun b M1 => B (!b) M1) : WT J (tNot t) Γ M B := fun F Z σ H en m x Q q =>
  h F Z σ H en m x _ fun b F1 H1 M1 s1 m1 h1 => q _ F1 H1 M1 s1 m1 h1
/-- and, or, not as values -/
theorem w_andT (h : Wx J ta Γ M fun x M1 => ∃ k, Tru M1 x k ∧ (k = true → Wx J tb Γ M1 P) ∧ (k = false → P x M1)) : Wx J (tAndT J.K ta tb) Γ M P := fun F Z σ H en m x Q q =>
  h F Z σ H en m x _ fun v F1 H1 e1 M1 s1 m1 r1 ⟨k, ek, h1, h2⟩ => ⟨k, tru_ok m1 r1 ek, by
    cases k with
    | true =>
      show tb σ H1 Q
      exact h1 rfl F1 Z σ H1 (en.mono s1) m1 (x.mono s1) Q fun w F3 H3 e3 M3 s3 m3 r3 p => q w F3 H3 e3 M3 (s1.trans s3) m3 r3 p
    | false =>
      show Q v H1
      exact q _ F1 H1 _ M1 s1 m1 r1 (h2 rfl)⟩
theorem w_orT (h : Wx J ta Γ M fun x M1 => ∃ k, Tru M1 x k ∧ (k = false → Wx J tb Γ M1 P) ∧ (k = true → P x M1)) : Wx J (tOrT J.K ta tb) Γ M P := fun F Z σ H en m x Q q =>
  h F Z σ H en m x _ fun v F1 H1 e1 M1 s1 m1 r1 ⟨k, ek, h1, h2⟩ => ⟨k, tru_ok m1 r1 ek, by
    cases k with
    | false =>
      show tb σ H1 Q
      exact h1 rfl F1 Z σ H1 (en.mono s1) m1 (x.mono s1) Q fun w F3 H3 e3 M3 s3 m3 r3 p => q w F3 H3 e3 M3 (s1.trans s3) m3 r3 p
    | true =>
      show Q v H1
      exact q _ F1 H1 _ M1 s1 m1 r1 (h2 rfl)⟩
theorem w_notT (h : Wx J ta Γ M fun x M1 => ∃ k, Tru M1 x k ∧ P (.d (.bool (!k))) M1) : Wx J (tNotT J.K ta) Γ M P := fun F Z σ H en m x Q q =>
  h F Z σ H en m x _ fun v F1 H1 e1 M1 s1 m1 r1 ⟨k, ek, h1⟩ => ⟨k, tru_ok m1 r1 ek, q _ F1 H1 (.d (.bool (!k))) M1 s1 m1 (Rp.bl _) h1⟩
/-! ### arguments -/
variable {A : List Ent → Ms → Prop} {tr : TA}
theorem wa_nil (p : A [] M) : WA J tNil Γ M A := fun F Z σ H en m x Q q => q [] F H [] M (Same.refl F) m .nil p
theorem wa_cons (h : Wx J ta Γ M fun x M1 => WA J tr Γ M1 fun xs M2 => A (x :: xs) M2) : WA J (tCons ta tr) Γ M A := fun F Z σ H en m x Q q =>
  h F Z σ H en m x _ fun v F1 H1 e1 M1 s1 m1 r1 h1 => h1 F1 Z σ H1 (en.mono s1) m1 (x.mono s1) _ fun vs F2 H2 es M2 s2 m2 r2 p => q (v :: vs) F2 H2 (e1 :: es) M2 (s1.trans s2) m2 (.cons (r1.mono s2) r2) p
/-- a tuple, a list that stands | a list that may change -/
theorem w_tup {t : TA} (h : WA J t Γ M fun es M1 => ∃ ds, es = ds.map Ent.d ∧ ds.length ≤ sizeLine ∧ P (.d (.tuple ds)) M1) : Wx J (tTup t) Γ M P := fun F Z σ H en m x Q q =>
  h F Z σ H en m x _ fun vs F1 H1 es M1 s1 m1 r1 ⟨ds, ed, hl, p⟩ => by
    subst ed
    have ra := rpAll_of r1
    refine ⟨by rw [ra.length]; exact hl, fun a n => ?_⟩
    obtain ⟨s2, m2⟩ := m1.newF (o := .tup vs) n
    exact q _ _ _ (.d (.tuple ds)) M1 (s1.trans s2) m2 (.tup (.inl (.inl upd_same)) (ra.mono s2)) p
theorem w_lst {t : TA} (h : WA J t Γ M fun es M1 => ∃ ds, es = ds.map Ent.d ∧ ds.length ≤ sizeLine ∧ P (.d (.list ds)) M1) : Wx J (tLst t) Γ M P := fun F Z σ H en m x Q q =>
  h F Z σ H en m x _ fun vs F1 H1 es M1 s1 m1 r1 ⟨ds, ed, hl, p⟩ => by
    subst ed
    have ra := rpAll_of r1
    refine ⟨by rw [ra.length]; exact hl, fun a n => ?_⟩
    obtain ⟨s2, m2⟩ := m1.newF (o := .lst vs) n
    exact q _ _ _ (.d (.list ds)) M1 (s1.trans s2) m2 (.lst upd_same (ra.mono s2)) p
theorem w_lstM {t : TA} (h : WA J t Γ M fun es M1 => ∃ ds, es = ds.map Ent.d ∧ ds.length ≤ sizeLine ∧ P (.r M1.length) (M1 ++ [some (.lst ds)])) : Wx J (tLst t) Γ M P := fun F Z σ H en m x Q q =>
  h F Z σ H en m x _ fun vs F1 H1 es M1 s1 m1 r1 ⟨ds, ed, hl, p⟩ => by
    subst ed
    have ra := rpAll_of r1
    refine ⟨by rw [ra.length]; exact hl, fun a n => ?_⟩
    obtain ⟨s2, m2, r2⟩ := m1.newM (o := .lst vs) (m := .lst ds) n ⟨vs, rfl, ra⟩
    exact q _ _ _ (.r M1.length) _ (s1.trans s2) m2 r2 p
theorem w_lstE {t : TA} (h : WA J t Γ M fun es M1 => es.length ≤ sizeLine ∧ P (.r M1.length) (M1 ++ [some (.lsE es)])) : Wx J (tLst t) Γ M P := fun F Z σ H en m x Q q =>
  h F Z σ H en m x _ fun vs F1 H1 es M1 s1 m1 r1 ⟨hl, p⟩ => by
    refine ⟨by rw [r1.length]; exact hl, fun a n => ?_⟩
    obtain ⟨s2, m2, r2⟩ := m1.newM (o := .lst vs) (m := .lsE es) n ⟨vs, rfl, r1⟩
    exact q _ _ _ (.r M1.length) _ (s1.trans s2) m2 r2 p
end
/-! ## defs -/
/-- what a def does, over data: its arguments, what may change (all that they reach), what is wanted of its value, of an exception -/
abbrev ASp := List Ent → Ms → (Ent → Ms → Prop) → Xa → Prop
def spA (K : PySem.W.Frag) (c : ASp) : Sp := fun vs H Q E => ∃ (F : Wd) (Z : Hp) (M : Ms) (es : List Ent) (Qa : Ent → Ms → Prop) (X : Xa), REs K F vs es ∧ Mem K F M Z H ∧ c es M Qa X ∧
  (∀ v F' H' e M', Same F F' → Mem K F' M' Z H' → RE K F' v e → Qa e M' → Q v H') ∧ XRc K E X F Z
abbrev X0 : Xa := fun _ _ _ => False
theorem paired_mapS {α β γ : Type} {R : α → β → Prop} {S : α → γ → Prop} (f : β → γ) {xs : List α} {ys : List β} (h : Paired R xs ys) (k : ∀ x y, y ∈ ys → R x y → S x (f y)) : Paired S xs (ys.map f) := paired_mapR f h k
/-- a call sees only what its arguments reach: s -/
def FrS (s : List Nat) (c : ASp) (es : List Ent) (M : Ms) (P : Ent → Ms → Prop) (X : Xa) : Prop :=
  OkS s M ∧ (∀ e ∈ es, e.inS s) ∧ c (es.map (Ent.sel s)) (selM s M) (fun e M2 => P (e.back s M.length) (mergeM M s M2)) (fun k xs M2 => X k (xs.map fun p => (p.1, p.2.back s M.length)) (mergeM M s M2))
def Fr (c : ASp) (es : List Ent) (M : Ms) (P : Ent → Ms → Prop) (X : Xa) : Prop := ∃ s, FrS s c es M P X
theorem xd_back {K : PySem.W.Frag} {F F2 : Wd} {s : List Nat} {k : Nat} (hk : F.ι.length = k) (h : Same (selW s F) F2) (hs : ∀ n ∈ s, n < k) : ∀ {od : Option Addr} {xs : List (Str × Ent)}, XdOk K F2 od xs → XdOk K (backW F s F2) od (xs.map fun p => (p.1, p.2.back s k))
  | none, xs, e => by
    have e' : xs = [] := e
    subst e'
    rfl
  | some d, xs, ⟨vs, e, r⟩ => ⟨vs, e, paired_mapR _ r fun _ _ _ q => ⟨q.1, re_back hk h hs q.2⟩⟩
/-- from the frame rule to the promise -/
theorem fr_sp {J : Jx} {c : ASp} {es : List Ent} {M : Ms} {P : Ent → Ms → Prop} {X : Xa} {F : Wd} {Z H : Hp} {vs : List V} {Q : VK} {E : XK} (hf : Fr c es M P X) (r : REs J.K F vs es) (m : Mem J.K F M Z H) (xr : XRc J.K E X F Z)
    (q : ∀ v F' H' e M', Same F F' → Mem J.K F' M' Z H' → RE J.K F' v e → P e M' → Q v H') : spA J.K c vs H Q E := by
  obtain ⟨s, ok, hin, hc⟩ := hf
  refine ⟨selW s F, restZ s F M Z H, selM s M, es.map (Ent.sel s), _, _, paired_mapR _ r fun _ e he q => re_sel q (hin e he), m.sel ok, hc, ?_, ?_⟩
  · intro v F' H' e M' w m' r' p
    exact q v (backW F s F') H' (e.back s M.length) (mergeM M s M') (same_back w) (m.back ok w m') (re_back m.len w ok.lt r') p
  · intro F' H' M' k od xs w m' p o
    exact xr (backW F s F') H' (mergeM M s M') k od _ (same_back w) (m.back ok w m') p (xd_back m.len w ok.lt o)
section
variable {J : Jx} {Γ : Ga} {M : Ms} {P : Ent → Ms → Prop} {t : TA}
/-- a call of a def that lets nothing out; dvs: its defaults -/
theorem w_call0 {c : ASp} {dvs : List V} {des : List Ent} (hd : ∀ F, REs J.K F dvs des) (h : WA J t Γ M fun es M1 => Fr c (es ++ des) M1 P X0) : Wx J (tCallSD (spA J.K c) dvs (fun _ => E0) t) Γ M P := fun F Z σ H en m x Q q =>
  h F Z σ H en m x _ fun vs F1 H1 es M1 s1 m1 r1 h1 =>
    fr_sp (J := J) (E := E0) h1 (paired_append r1 (hd F1)) m1 (fun _ _ _ _ _ _ _ _ z _ => z.elim) fun v F' H' e M' s' m' r p => q v F' H' e M' (s1.trans s') m' r p
theorem w_callE {c : ASp} {dvs : List V} {des : List Ent} (hd : ∀ F, REs J.K F dvs des) (h : WA J t Γ M fun es M1 => Fr c (es ++ des) M1 P (J.X Γ)) : Wx J (tCallSD (spA J.K c) dvs (WE J.E) t) Γ M P := fun F Z σ H en m x Q q =>
  h F Z σ H en m x _ fun vs F1 H1 es M1 s1 m1 r1 h1 =>
    fr_sp (J := J) (E := WE J.E σ) h1 (paired_append r1 (hd F1)) m1 ((x.mono s1).at_ (en.mono s1)) fun v F' H' e M' s' m' r p => q v F' H' e M' (s1.trans s') m' r p
end
/-! ### the frame rule in its usual forms -/
def isD : Ent → Bool
  | .r _ => false
  | _ => true
theorem sel_isD {s : List Nat} {e : Ent} (h : isD e = true) : e.sel s = e ∧ e.inS s := by
  cases e <;> first | exact ⟨rfl, trivial⟩ | cases h
theorem back_isD {s : List Nat} {k : Nat} {e : Ent} (h : isD e = true) : e.back s k = e := by
  cases e <;> first | rfl | cases h
theorem map_sel_isD {s : List Nat} {es : List Ent} (h : es.all isD = true) : es.map (Ent.sel s) = es ∧ ∀ e ∈ es, e.inS s := by
  rw [List.all_eq_true] at h
  exact ⟨by
    conv => rhs; rw [← List.map_id es]
    exact List.map_congr_left fun e he => (sel_isD (h e he)).1, fun e he => (sel_isD (h e he)).2⟩
/-- nothing of the caller's is reached -/
def Fr0 (P : Ent → Ms → Prop) (M : Ms) (e : Ent) (M2 : Ms) : Prop := P (e.back [] M.length) (M ++ backM [] M.length M2)
def Fx0 (X : Xa) (M : Ms) : Xa := fun k xs M2 => X k (xs.map fun p => (p.1, p.2.back [] M.length)) (M ++ backM [] M.length M2)
theorem merge0 (M M2 : Ms) : mergeM M [] M2 = M ++ backM [] M.length M2 := by
  unfold mergeM
  cases backM [] M.length M2 <;> simp [putM]
theorem fr0 {c : ASp} {es : List Ent} {M : Ms} {P : Ent → Ms → Prop} {X : Xa} (he : es.all isD = true) (h : c es [] (Fr0 P M) (Fx0 X M)) : Fr c es M P X := by
  obtain ⟨e1, e2⟩ := map_sel_isD (s := []) he
  refine ⟨[], ⟨List.nodup_nil, fun n hn => (nomatch hn), fun n hn => (nomatch hn)⟩, e2, ?_⟩
  rw [e1]
  have ep : (fun e M2 => P (e.back [] M.length) (mergeM M [] M2)) = Fr0 P M := by
    funext e M2
    rw [merge0]
    rfl
  have ex : (fun k xs M2 => X k (xs.map fun p => (p.1, p.2.back [] M.length)) (mergeM M [] M2)) = Fx0 X M := by
    funext k xs M2
    rw [merge0]
    rfl
  rw [ep, ex]
  exact h
theorem fr0_d {P : Ent → Ms → Prop} {M : Ms} {x : PyData} (h : P (.d x) M) : Fr0 P M (.d x) [] := by
  unfold Fr0
  show P (.d x) (M ++ [])
  rw [List.append_nil]
  exact h
theorem fr0_new {P : Ent → Ms → Prop} {M : Ms} {m : Mo} (hm : m.map (Ent.back [] M.length) = m) (h : P (.r M.length) (M ++ [some m])) : Fr0 P M (.r 0) [some m] := by
  unfold Fr0
  have e : backM [] M.length [some m] = [some m] := by
    show [some (m.map (Ent.back [] M.length))] = _
    rw [hm]
  rw [e]
  exact h
/-- one object of the caller's is reached, the one with the number n, which the arguments name first -/
def Fr1 (P : Ent → Ms → Prop) (M : Ms) (n : Nat) (e : Ent) (M2 : Ms) : Prop := P (e.back [n] M.length) (mergeM M [n] M2)
def Fx1 (X : Xa) (M : Ms) (n : Nat) : Xa := fun k xs M2 => X k (xs.map fun p => (p.1, p.2.back [n] M.length)) (mergeM M [n] M2)
def flatM : Mo → Bool
  | .lst _ => true
  | .dic _ => true
  | .lsE es => es.all isD
  | .ins _ fs => fs.all fun p => isD p.2
theorem flat_map {f : Ent → Ent} {m : Mo} (hf : ∀ e, isD e = true → f e = e) (h : flatM m = true) : m.map f = m := by
  cases m with
  | lst _ => rfl
  | dic _ => rfl
  | lsE es =>
    have h' : es.all isD = true := h
    rw [List.all_eq_true] at h'
    show Mo.lsE (es.map f) = _
    rw [List.map_congr_left (g := id) fun e he => hf e (h' e he), List.map_id]
  | ins C fs =>
    have h' : (fs.all fun p => isD p.2) = true := h
    rw [List.all_eq_true] at h'
    show Mo.ins C (fs.map fun p => (p.1, f p.2)) = _
    rw [List.map_congr_left (g := id) fun p hp => by rw [hf p.2 (h' p hp)]; rfl, List.map_id]
theorem flat_in {s : List Nat} {m : Mo} (h : flatM m = true) : m.inS s := by
  cases m with
  | lst _ => trivial
  | dic _ => trivial
  | lsE es =>
    have h' : es.all isD = true := h
    rw [List.all_eq_true] at h'
    exact fun e he => (sel_isD (h' e he)).2
  | ins C fs =>
    have h' : (fs.all fun p => isD p.2) = true := h
    rw [List.all_eq_true] at h'
    exact fun e he => (sel_isD (h' e he)).2
theorem at_lt {M : Ms} {n : Nat} {o : Option Mo} (h : M[n]? = some o) : n < M.length := (List.getElem?_eq_some_iff.mp h).1
theorem fr1 {c : ASp} {es : List Ent} {M : Ms} {P : Ent → Ms → Prop} {X : Xa} {n : Nat} {m : Mo} (hn : M[n]? = some (some m)) (hm : flatM m = true) (he : es.all isD = true) (h : c (.r 0 :: es) [some m] (Fr1 P M n) (Fx1 X M n)) : Fr c (.r n :: es) M P X := by
  obtain ⟨e1, e2⟩ := map_sel_isD (s := [n]) he
  refine ⟨[n], ⟨List.nodup_cons.mpr ⟨fun z => (nomatch z), List.nodup_nil⟩, fun i hi => ?_, fun i hi m' t => ?_⟩, fun e hi => ?_, ?_⟩
  · rw [List.mem_singleton] at hi
    rw [hi]
    exact at_lt hn
  · rw [List.mem_singleton] at hi
    rw [hi, hn] at t
    cases t
    exact flat_in hm
  · rcases List.mem_cons.mp hi with rfl | hi
    · exact List.mem_singleton.mpr rfl
    · exact e2 e hi
  · have e3 : (Ent.r n :: es).map (Ent.sel [n]) = .r 0 :: es := by
      rw [List.map_cons, e1]
      show Ent.r ([n].idxOf n) :: es = _
      simp
    have e4 : selM [n] M = [some m] := by
      show [(M[n]?.getD none).map (Mo.map (Ent.sel [n]))] = _
      rw [hn]
      show [some (m.map (Ent.sel [n]))] = _
      rw [flat_map (fun e h => (sel_isD h).1) hm]
    rw [e3, e4]
    exact h
theorem merge1 {M : Ms} {n : Nat} {m : Option Mo} {r : Ms} : mergeM M [n] (m :: r) = M.set n (m.map (Mo.map (Ent.back [n] M.length))) ++ backM [n] M.length r := rfl
theorem fr1_d {P : Ent → Ms → Prop} {M : Ms} {n : Nat} {x : PyData} {m : Mo} (hm : flatM m = true) (h : P (.d x) (M.set n (some m))) : Fr1 P M n (.d x) [some m] := by
  unfold Fr1
  rw [merge1]
  show P (.d x) (M.set n (some (m.map (Ent.back [n] M.length))) ++ [])
  rw [List.append_nil, flat_map (fun e h => back_isD h) hm]
  exact h
theorem fr1_new {P : Ent → Ms → Prop} {M : Ms} {n : Nat} {m m1 : Mo} (hm : flatM m = true) (hm1 : flatM m1 = true) (h : P (.r M.length) (M.set n (some m) ++ [some m1])) : Fr1 P M n (.r 1) [some m, some m1] := by
  unfold Fr1
  rw [merge1]
  show P (.r (M.length + 0)) (M.set n (some (m.map (Ent.back [n] M.length))) ++ [some (m1.map (Ent.back [n] M.length))])
  rw [flat_map (fun e h => back_isD h) hm, flat_map (fun e h => back_isD h) hm1]
  exact h
/-- a def's end: n objects are the caller's, ex are told besides; the rest is forgotten -/
def Fin (n : Nat) (Q : Ent → Ms → Prop) : Ent → Ms → Prop := fun e M' => ∃ ex : List Nat, OkS (List.range n ++ ex) M' ∧ e.inS (List.range n ++ ex) ∧ Q (e.sel (List.range n ++ ex)) (selM (List.range n ++ ex) M')
def FinX (n : Nat) (X : Xa) : Xa := fun k xs M' => OkS (List.range n) M' ∧ (∀ p ∈ xs, p.2.inS (List.range n)) ∧ X k (xs.map fun p => (p.1, p.2.sel (List.range n))) (selM (List.range n) M')
def flatMs (M : Ms) : Bool := M.all fun o => match o with
  | none => true
  | some m => flatM m
theorem flatMs_at {M : Ms} (h : flatMs M = true) {i : Nat} {m : Mo} (e : M[i]? = some (some m)) : flatM m = true := by
  unfold flatMs at h
  rw [List.all_eq_true] at h
  exact h _ (List.mem_of_getElem? e)
theorem selM_range {n : Nat} {M : Ms} (hl : n ≤ M.length) (hf : flatMs (M.take n) = true) : selM (List.range n) M = M.take n := by
  refine List.ext_getElem? fun i => ?_
  unfold selM
  rw [List.getElem?_map]
  by_cases hi : i < n
  · rw [List.getElem?_range hi]
    show some ((M[i]?.getD none).map _) = _
    rw [List.getElem?_take, if_pos hi, List.getElem?_eq_getElem (by omega)]
    show some (Option.map _ M[i]) = some M[i]
    cases e : M[i] with
    | none => rfl
    | some m =>
      have : flatM m = true := flatMs_at hf (i := i) (by rw [List.getElem?_take, if_pos hi, List.getElem?_eq_getElem (by omega), e])
      show some (some _) = _
      rw [flat_map (fun e h => (sel_isD h).1) this]
  · rw [List.getElem?_eq_none (by simp; omega), List.getElem?_eq_none (by simp; omega)]
    rfl
theorem okS_range {n : Nat} {M : Ms} (hl : n ≤ M.length) (hf : flatMs (M.take n) = true) : OkS (List.range n) M := by
  refine ⟨List.nodup_range, fun i hi => ?_, fun i hi m e => ?_⟩
  · have := List.mem_range.mp hi
    omega
  · have hi' := List.mem_range.mp hi
    exact flat_in (flatMs_at hf (i := i) (by rw [List.getElem?_take, if_pos hi', e]))
/-- data are handed back -/
theorem fin_d {n : Nat} {Q : Ent → Ms → Prop} {x : PyData} {M : Ms} (hl : n ≤ M.length) (hf : flatMs (M.take n) = true) (h : Q (.d x) (M.take n)) : Fin n Q (.d x) M := by
  refine ⟨[], ?_, trivial, ?_⟩
  · rw [List.append_nil]
    exact okS_range hl hf
  · rw [List.append_nil, selM_range hl hf]
    exact h
theorem finX {n : Nat} {X : Xa} {k : Value} {xs : List (Str × Ent)} {M : Ms} (hl : n ≤ M.length) (hf : flatMs (M.take n) = true) (hx : (xs.all fun p => isD p.2) = true) (h : X k xs (M.take n)) : FinX n X k xs M := by
  rw [List.all_eq_true] at hx
  refine ⟨okS_range hl hf, fun p hp => (sel_isD (hx p hp)).2, ?_⟩
  rw [selM_range hl hf, List.map_congr_left (g := id) fun p hp => by rw [(sel_isD (hx p hp)).1]; rfl, List.map_id]
  exact h
/-- a new object is handed back -/
theorem fin_r {n j : Nat} {Q : Ent → Ms → Prop} {M : Ms} {m : Mo} (hj : M[j]? = some (some m)) (hm : flatM m = true) (hn : n ≤ j) (hf : flatMs (M.take n) = true) (h : Q (.r n) (M.take n ++ [some m])) : Fin n Q (.r j) M := by
  have hl := at_lt hj
  have h0 : OkS (List.range n) M := okS_range (by omega) hf
  have nj : j ∉ List.range n := fun q => by
    have := List.mem_range.mp q
    omega
  refine ⟨[j], ⟨List.nodup_append.mpr ⟨List.nodup_range, List.nodup_cons.mpr ⟨fun z => (nomatch z), List.nodup_nil⟩, fun a ha b hb => ?_⟩, fun i hi => ?_, fun i hi m' e => ?_⟩, ?_, ?_⟩
  · rw [List.mem_singleton] at hb
    rw [hb]
    intro q
    exact nj (q ▸ ha)
  · rcases List.mem_append.mp hi with hi | hi
    · exact h0.lt i hi
    · rw [List.mem_singleton] at hi
      omega
  · rcases List.mem_append.mp hi with hi | hi
    · have hi' := List.mem_range.mp hi
      exact flat_in (flatMs_at hf (i := i) (by rw [List.getElem?_take, if_pos hi', e]))
    · rw [List.mem_singleton] at hi
      rw [hi, hj] at e
      cases e
      exact flat_in hm
  · exact List.mem_append_right _ (List.mem_singleton.mpr rfl)
  · have e1 : (Ent.r j).sel (List.range n ++ [j]) = .r n := by
      show Ent.r ((List.range n ++ [j]).idxOf j) = _
      rw [List.idxOf_append, if_neg nj]
      simp
    have e2 : selM (List.range n ++ [j]) M = M.take n ++ [some m] := by
      have e3 : selM (List.range n ++ [j]) M = (List.range n).map (fun i => (M[i]?.getD none).map (Mo.map (Ent.sel (List.range n ++ [j])))) ++ [some (m.map (Ent.sel (List.range n ++ [j])))] := by
        unfold selM
        rw [List.map_append, List.map_singleton, hj]
        rfl
      rw [e3, flat_map (fun e h => (sel_isD h).1) hm]
      congr 1
      rw [← selM_range (by omega) hf]
      unfold selM
      refine List.map_congr_left fun i hi => ?_
      have hi' := List.mem_range.mp hi
      cases e : M[i]?.getD none with
      | none => rfl
      | some m' =>
        have e5 : M[i]? = some (some m') := by
          rw [List.getElem?_eq_getElem (by omega)] at e ⊢
          exact congrArg some e
        have : flatM m' = true := flatMs_at hf (i := i) (by rw [List.getElem?_take, if_pos hi', e5])
        show some _ = some _
        rw [flat_map (fun e h => (sel_isD h).1) this, flat_map (fun e h => (sel_isD h).1) this]
    rw [e1, e2]
    exact h
theorem range_pre {K : PySem.W.Frag} {F F' : Wd} {M' : Ms} {Z H' : Hp} (s : Same F F') (m : Mem K F' M' Z H') (ex : List Nat) : Same F (selW (List.range F.ι.length ++ ex) F') := by
  refine ⟨s.F, ?_⟩
  show F.ι <+: (List.range F.ι.length ++ ex).map fun n => F'.ι[n]?.getD 0
  rw [List.map_append]
  have e : (List.range F.ι.length).map (fun n => F'.ι[n]?.getD 0) = F.ι := by
    refine List.ext_getElem? fun i => ?_
    rw [List.getElem?_map]
    by_cases hi : i < F.ι.length
    · rw [List.getElem?_range hi, List.getElem?_eq_getElem hi]
      show some (F'.ι[i]?.getD 0) = _
      rw [s.at_ (List.getElem?_eq_getElem hi)]
      rfl
    · rw [List.getElem?_eq_none (by simp; omega), List.getElem?_eq_none (by omega)]
      rfl
  rw [e]
  exact List.prefix_append _ _
/-! ## statements -/
structure Nd where
  nx : Ga → Ms → Prop
  rt : Ent → Ms → Prop
  bk : Ga → Ms → Prop := fun _ _ => False
  ct : Ga → Ms → Prop := fun _ _ => False
structure EndOk (K : PySem.W.Frag) (F : Wd) (Z : Hp) (D : Nd) (C : Ends) : Prop where
  nx : ∀ F' M' H' σ Γ, Same F F' → Mem K F' M' Z H' → EnvOk K F' σ Γ → D.nx Γ M' → C.nx σ H'
  rt : ∀ F' M' H' v e, Same F F' → Mem K F' M' Z H' → RE K F' v e → D.rt e M' → C.rt v H'
  bk : ∀ F' M' H' σ Γ, Same F F' → Mem K F' M' Z H' → EnvOk K F' σ Γ → D.bk Γ M' → C.bk σ H'
  ct : ∀ F' M' H' σ Γ, Same F F' → Mem K F' M' Z H' → EnvOk K F' σ Γ → D.ct Γ M' → C.ct σ H'
theorem EndOk.mono {K : PySem.W.Frag} {F F' : Wd} {Z : Hp} {D : Nd} {C : Ends} (h : EndOk K F Z D C) (s : Same F F') : EndOk K F' Z D C :=
  ⟨fun F2 M2 H2 σ Γ s2 => h.nx F2 M2 H2 σ Γ (s.trans s2), fun F2 M2 H2 v e s2 => h.rt F2 M2 H2 v e (s.trans s2), fun F2 M2 H2 σ Γ s2 => h.bk F2 M2 H2 σ Γ (s.trans s2), fun F2 M2 H2 σ Γ s2 => h.ct F2 M2 H2 σ Γ (s.trans s2)⟩
def Sx (J : Jx) (ts : TS) (D : Nd) (Γ : Ga) (M : Ms) : Prop := ∀ F Z σ H C, EnvOk J.K F σ Γ → Mem J.K F M Z H → XR J F Z → EndOk J.K F Z D C → ts C σ H
/-- targets -/
def GT (J : Jx) (g : TG) (e : Ent) (Γ : Ga) (M : Ms) (P : Ga → Ms → Prop) : Prop := ∀ F Z σ H v, EnvOk J.K F σ Γ → Mem J.K F M Z H → XR J F Z → RE J.K F v e → ∀ Q : L2.St → Hp → Prop,
  (∀ F' H' σ' Γ' M', Same F F' → Mem J.K F' M' Z H' → EnvOk J.K F' σ' Γ' → P Γ' M' → Q σ' H') → g v σ H Q
def GTs (J : Jx) (g : TGs) (es : List Ent) (Γ : Ga) (M : Ms) (P : Ga → Ms → Prop) : Prop := ∀ F Z σ H vs, EnvOk J.K F σ Γ → Mem J.K F M Z H → XR J F Z → REs J.K F vs es → ∀ Q : L2.St → Hp → Prop,
  (∀ F' H' σ' Γ' M', Same F F' → Mem J.K F' M' Z H' → EnvOk J.K F' σ' Γ' → P Γ' M' → Q σ' H') → g vs σ H Q
section
variable {J : Jx} {Γ : Ga} {M : Ms} {D : Nd} {te ta tb : TE} {t u : TS} {tt : TT} {g : TG} {gs : TGs} {P : Ga → Ms → Prop} {e : Ent}
theorem s_seq (h : Sx J t { D with nx := fun Γ' M' => Sx J u D Γ' M' } Γ M) : Sx J (tSeq t u) D Γ M := fun F Z σ H C en m x d =>
  h F Z σ H _ en m x ⟨fun F' M' H' σ' Γ' s m' e' k => k F' Z σ' H' C e' m' (x.mono s) (d.mono s), d.rt, d.bk, d.ct⟩
theorem s_next (h : D.nx Γ M) : Sx J tNext D Γ M := fun F Z σ H C en m x d => d.nx F M H σ Γ (Same.refl F) m en h
theorem s_break (h : D.bk Γ M) : Sx J tBreak D Γ M := fun F Z σ H C en m x d => d.bk F M H σ Γ (Same.refl F) m en h
theorem s_cont (h : D.ct Γ M) : Sx J tCont D Γ M := fun F Z σ H C en m x d => d.ct F M H σ Γ (Same.refl F) m en h
theorem s_drop (h : Wx J te Γ M fun _ M1 => D.nx Γ M1) : Sx J (tDrop te) D Γ M := fun F Z σ H C en m x d =>
  h F Z σ H en m x _ fun v F' H' e M' s m' r p => d.nx F' M' H' σ Γ s m' (en.mono s) p
theorem s_ret (h : Wx J te Γ M D.rt) : Sx J (tRet te) D Γ M := fun F Z σ H C en m x d =>
  h F Z σ H en m x _ fun v F' H' e M' s m' r p => d.rt F' M' H' v e s m' r p
theorem s_retN (h : D.rt (.d .none) M) : Sx J tRetN D Γ M := fun F Z σ H C en m x d => d.rt F M H _ (.d .none) (Same.refl F) m Rp.non h
theorem s_if (h : WT J tt Γ M fun b M1 => (b = true → Sx J t D Γ M1) ∧ (b = false → Sx J u D Γ M1)) : Sx J (tIfS tt t u) D Γ M := fun F Z σ H C en m x d =>
  h F Z σ H en m x _ fun b F1 H1 M1 s1 m1 ⟨h1, h2⟩ => by
    cases b with
    | true =>
      show t C σ H1
      exact h1 rfl F1 Z σ H1 C (en.mono s1) m1 (x.mono s1) (d.mono s1)
    | false =>
      show u C σ H1
      exact h2 rfl F1 Z σ H1 C (en.mono s1) m1 (x.mono s1) (d.mono s1)
theorem s_asg (h : Wx J te Γ M fun e M1 => GT J g e Γ M1 D.nx) : Sx J (tAsg te g) D Γ M := fun F Z σ H C en m x d =>
  h F Z σ H en m x _ fun v F1 H1 e M1 s1 m1 r1 h1 => h1 F1 Z σ H1 v (en.mono s1) m1 (x.mono s1) r1 _ fun F' H' σ' Γ' M' s m' e' p => d.nx F' M' H' σ' Γ' (s1.trans s) m' e' p
theorem g_name {i : Nat} (h : P (Γ.set i (some e)) M) : GT J (gName i) e Γ M P := fun F Z σ H v en m x r Q q => q F H _ _ M (Same.refl F) m (en.set i r) h
theorem s_set {i : Nat} (h : Wx J te Γ M fun e M1 => D.nx (Γ.set i (some e)) M1) : Sx J (tAsg te (gName i)) D Γ M := s_asg (h.imp fun _ _ p => g_name p)
theorem gs_nil (h : P Γ M) : GTs J gNil [] Γ M P := fun F Z σ H vs en m x r Q q => by
  cases r
  exact ⟨rfl, q F H σ Γ M (Same.refl F) m en h⟩
theorem gs_cons {es : List Ent} (h : GT J g e Γ M fun Γ1 M1 => GTs J gs es Γ1 M1 P) : GTs J (gCons g gs) (e :: es) Γ M P := fun F Z σ H vs en m x r Q q => by
  cases r with
  | cons r1 r2 =>
    exact ⟨_, _, rfl, h F Z σ H _ en m x r1 _ fun F1 H1 σ1 Γ1 M1 s1 m1 e1 k => k F1 Z σ1 H1 _ e1 m1 (x.mono s1) (Paired.mapP r2 fun _ _ q => q.mono s1) Q fun F' H' σ' Γ' M' s m' e' p => q F' H' σ' Γ' M' (s1.trans s) m' e' p⟩
theorem g_tup {n : Nat} {ds : List PyData} (hn : ds.length = n) (h : GTs J gs (ds.map Ent.d) Γ M P) : GT J (gTup J.K n gs) (.d (.tuple ds)) Γ M P := fun F Z σ H v en m x r Q q => by
  cases r with
  | tup e rs => exact ⟨_, _, rfl, sqT_mono m.sub e, by rw [rs.length]; exact hn, h F Z σ H _ en m x (res_of rs) Q q⟩
theorem s_aug {i : Nat} {ti : TIp} {e0 : Ent} (h0 : Γ[i]? = some (some e0)) (h : Wx J te Γ M fun y M1 => O2 J (fun x y H Q => ti x y H Q) e0 y M1 fun z M2 => D.nx (Γ.set i (some z)) M2) : Sx J (tAug i te ti) D Γ M := fun F Z σ H C en m x d => by
  obtain ⟨o, e1, v, e2, r⟩ := paired_get en h0
  subst e2
  exact ⟨v, e1, h F Z σ H en m x _ fun u F1 H1 e M1 s1 m1 r1 h1 => h1 F1 Z H1 v u m1 (x.mono s1) (r.mono s1) r1 _ fun z F2 H2 e3 M2 s2 m2 r2 p => d.nx F2 M2 H2 _ _ (s1.trans s2) m2 ((en.mono (s1.trans s2)).set i r2) p⟩
end
/-! ## the rule of a def -/
def nonesG : Nat → Ga
  | 0 => []
  | n + 1 => none :: nonesG n
def padG : List Ent → Nat → Ga
  | [], n => nonesG n
  | e :: es, n => some e :: padG es (n - 1)
def startG (N : List Str) (es : List Ent) : Ga := padG es N.length
theorem nones_eq : ∀ n, nonesG n = List.replicate n none
  | 0 => rfl
  | n + 1 => congrArg (none :: ·) (nones_eq n)
theorem pad_eq : ∀ (es : List Ent) (n : Nat), padG es n = es.map some ++ List.replicate (n - es.length) none
  | [], n => nones_eq n
  | e :: es, n => by
    show some e :: padG es (n - 1) = some e :: (es.map some ++ List.replicate (n - (es.length + 1)) none)
    rw [pad_eq es (n - 1), show n - 1 - es.length = n - (es.length + 1) by omega]
theorem startG_ok {K : PySem.W.Frag} {F : Wd} {N : List Str} {vs : List V} {es : List Ent} (r : REs K F vs es) : EnvOk K F (L2.start N vs) (startG N es) := by
  have e := r.length
  unfold L2.start startG
  rw [pad_eq, e]
  refine paired_append ?_ ?_
  · clear e
    induction r with
    | nil => exact .nil
    | cons q t ih => exact .cons ⟨_, rfl, q⟩ ih
  · generalize N.length - es.length = n
    induction n with
    | zero => exact .nil
    | succ n ih => exact .cons trivial ih
theorem fin_run {K : PySem.W.Frag} {t : TS} {N : List Str} {c : ASp} {E : XK} {vs : List V} {H : Hp} {Q : VK} {F : Wd} {Z : Hp} {M : Ms} {es : List Ent} {Qa : Ent → Ms → Prop} {X : Xa}
    (hs : ∀ es M Q X, c es M Q X → Sx (defJ K E (FinX M.length X)) t { nx := fun _ M' => Fin M.length Q (.d .none) M', rt := Fin M.length Q } (startG N es) M)
    (r : REs K F vs es) (m : Mem K F M Z H) (hc : c es M Qa X) (hq : ∀ v F' H' e M', Same F F' → Mem K F' M' Z H' → RE K F' v e → Qa e M' → Q v H') (hx : XRc K E X F Z) : t { nx := fun _ H' => Q .non H', rt := Q } (L2.start N vs) H := by
  have fin : ∀ (v : V) (F' : Wd) (H' : Hp) (e : Ent) (M' : Ms), Same F F' → Mem K F' M' Z H' → RE K F' v e → Fin M.length Qa e M' → Q v H' := by
    rintro v F' H' e M' s' m' r' ⟨ex, ok, hin, q⟩
    rw [← m.len] at ok hin q
    exact hq v _ H' _ _ (range_pre s' m' ex) (m'.sel0 ok) (re_sel r' hin) q
  refine hs es M Qa X hc F Z _ H _ (startG_ok r) m (xr_def ?_) ⟨?_, ?_, fun _ _ _ _ _ _ _ _ z => z.elim, fun _ _ _ _ _ _ _ _ z => z.elim⟩
  · rintro F' H' M' k od xs s' m' ⟨ok, hin, q⟩ o
    rw [← m.len] at ok hin q
    have sw := range_pre s' m' []
    rw [List.append_nil] at sw
    refine hx _ H' _ k od _ sw (m'.sel0 ok) q ?_
    cases od with
    | none =>
      have e' : xs = [] := o
      subst e'
      rfl
    | some d =>
      obtain ⟨vs, e, rr⟩ := o
      exact ⟨vs, e, paired_mapR _ rr fun _ p hp z => ⟨z.1, re_sel z.2 (hin p hp)⟩⟩
  · intro F' M' H' σ Γ s' m' _ q
    exact fin _ F' H' (.d .none) M' s' m' Rp.non q
  · intro F' M' H' v e s' m' r' q
    exact fin v F' H' e M' s' m' r' q
section
variable {P : Program} {w : World} {K : PySem.W.Frag} {mg : Str → Option Value} {base : Heap} {x qual : Str} {params : Arguments} {body : List Stmt} {scope : Scope} {dvs : List V} {kws : List (Str × V)} {f : Addr} {fd : FuncData}
/-- a def that lets nothing out -/
theorem fn_ok {N ps : List Str} {k : Nat} {c : ASp} (F : FunD K x qual params body scope dvs kws f fd) (S : FnScope N ps scope) (len : ∀ es M Q X, c es M Q X → es.length = ps.length)
    (h : ∀ (cdv : Value) (A : Around) (outer : List Env) (s : Shared) (H : Hp) (E : XK), Room k (A.deeper (PyProof.Rows.envOfC qual scope s.heap.objs.size f cdv)) →
      ∃ t, PSs (cxOf CX0 P w K mg base N qual scope f cdv A outer s H E).nox body t ∧ ∀ es M Q X, c es M Q X → Sx (defJ K E (FinX M.length X)) t { nx := fun _ M' => Fin M.length Q (.d .none) M', rt := Fin M.length Q } (startG N es) M) : FnOk P w K mg base CX0 (k + 1) f fd ps (spA K c) := by
  refine FunD.ok F S (fun vs H Q E ⟨F, Z, M, es, Qa, X, r, _, hc, _⟩ => r.length.trans (len es M Qa X hc)) fun cdv A outer s H vs Q E hr hsp => ?_
  obtain ⟨F, Z, M, es, Qa, X, r, m, hc, hq, hx⟩ := hsp
  obtain ⟨t, ht, hs⟩ := h cdv A outer s H E hr
  exact ⟨t, ht.nox, fin_run hs r m hc hq hx⟩
end
end Z
set_option Elab.async false
set_option linter.all false
set_option maxRecDepth 100000
set_option maxHeartbeats 4000000
namespace Z
open PySem PySem.Spec L2
/-! ## lists, data by what they hold -/
inductive LD (M : Ms) : Ent → List PyData → Prop
  | d {ds : List PyData} : LD M (.d (.list ds)) ds
  | w {ds : List PyData} : LD M (.w ds) ds
  | r {n : Nat} {ds : List PyData} (h : M[n]? = some (some (.lst ds))) : LD M (.r n) ds
theorem ld_ok {K : PySem.W.Frag} {F : Wd} {M : Ms} {Z H : Hp} {v : V} {e : Ent} {ds : List PyData} (m : Mem K F M Z H) (r : RE K F v e) (h : LD M e ds) : ∃ a vs, v = .ref a ∧ SqL K H a vs ∧ RpAll K F vs ds := by
  cases h with
  | d =>
    cases r with
    | lst e rs => exact ⟨_, _, rfl, .inl (.inl (m.sub _ _ e)), rs⟩
  | w =>
    obtain ⟨a, vs, rfl, e, rs⟩ := r
    exact ⟨a, vs, rfl, m.sub.seq e, rs⟩
  | r h =>
    obtain ⟨b, eb, rfl⟩ := r
    obtain ⟨a, vs, h0, _, h1, h2⟩ := m.lst h
    rw [eb] at h0
    cases h0
    exact ⟨b, vs, rfl, .inl (.inl h1), h2⟩
inductive LH (M : Ms) : Ent → List PyData → Prop
  | d {ds : List PyData} : LH M (.d (.list ds)) ds
  | r {n : Nat} {ds : List PyData} (h : M[n]? = some (some (.lst ds))) : LH M (.r n) ds
theorem lh_ok {K : PySem.W.Frag} {F : Wd} {M : Ms} {Z H : Hp} {v : V} {e : Ent} {ds : List PyData} (m : Mem K F M Z H) (r : RE K F v e) (h : LH M e ds) : ∃ a vs, v = .ref a ∧ H a = some (.lst vs) ∧ RpAll K F vs ds := by
  cases h with
  | d =>
    cases r with
    | lst e rs => exact ⟨_, _, rfl, m.sub _ _ e, rs⟩
  | r h =>
    obtain ⟨b, eb, rfl⟩ := r
    obtain ⟨a, vs, h0, _, h1, h2⟩ := m.lst h
    rw [eb] at h0
    cases h0
    exact ⟨b, vs, rfl, h1, h2⟩
/-- what a value reads as -/
inductive DV (M : Ms) : Ent → PyData → Prop
  | d {x : PyData} : DV M (.d x) x
  | w {ds : List PyData} : DV M (.w ds) (.list ds)
  | r {n : Nat} {ds : List PyData} (h : M[n]? = some (some (.lst ds))) : DV M (.r n) (.list ds)
theorem dv_ok {K : PySem.W.Frag} {F : Wd} {M : Ms} {Z H : Hp} {v : V} {e : Ent} {d : PyData} (m : Mem K F M Z H) (r : RE K F v e) (h : DV M e d) (hn : noObj d = true) : Dp K H v d := by
  cases h with
  | d => exact dp_mono m.sub (Rp.dp r hn)
  | w =>
    obtain ⟨a, vs, rfl, e, rs⟩ := r
    exact .lst (m.sub.seq e) (dpAll_mono m.sub (RpAll.dp rs hn))
  | r h =>
    obtain ⟨b, eb, rfl⟩ := r
    obtain ⟨a, vs, h0, _, h1, h2⟩ := m.lst h
    rw [eb] at h0
    cases h0
    exact .lst (.inl (.inl h1)) (dpAll_mono m.sub (RpAll.dp h2 hn))
/-! ## operations over data -/
def rOr (r r' : R2) : R2 := fun x y H Q => r x y H Q ∨ r' x y H Q
theorem op_or2 {X : Cx} {f : Value → Value → Sem Value} {r r' : R2} (h : OpR X f r) (h' : OpR X f r') : OpR X f (rOr r r') := fun pins s σ H x y v u Q I rx ry q => q.elim (h pins s σ H x y v u Q I rx ry) (h' pins s σ H x y v u Q I rx ry)
section
variable {J : Jx} {Γ : Ga} {M : Ms} {P : Ent → Ms → Prop} {r r' : R2} {x y : Ent}
theorem o_l (h : O2 J r x y M P) : O2 J (rOr r r') x y M P := fun F Z H v u m xr r1 r2 Q q => .inl (h F Z H v u m xr r1 r2 Q q)
theorem o_r (h : O2 J r' x y M P) : O2 J (rOr r r') x y M P := fun F Z H v u m xr r1 r2 Q q => .inr (h F Z H v u m xr r1 r2 Q q)
theorem o_I0 {g : Int → Int → V} {d : PyData} {i j : Int} (hg : ∀ F, Rp J.K F (g i j) d) (p : P (.d d) M) : O2 J (rI0 g) (.d (.int i)) (.d (.int j)) M P := fun F Z H v u m xr r1 r2 Q q => by
  cases r1
  cases r2
  exact ⟨i, j, rfl, rfl, q _ F H (.d d) M (Same.refl F) m (hg F) p⟩
theorem o_I {C : Int → Int → Prop} {g : Int → Int → V} {d : PyData} {i j : Int} (hg : ∀ F, Rp J.K F (g i j) d) (hc : C i j) (p : P (.d d) M) : O2 J (rI C g) (.d (.int i)) (.d (.int j)) M P := fun F Z H v u m xr r1 r2 Q q => by
  cases r1
  cases r2
  exact ⟨i, j, rfl, rfl, hc, q _ F H (.d d) M (Same.refl F) m (hg F) p⟩
/-! + - * // % ** -/
abbrev rAddI : R2 := rI0 fun i j => .int (i + j)
abbrev rAddS : R2 := fun x y H Q => ∃ i j, x = .str i ∧ y = .str j ∧ i.length + j.length ≤ sizeLine ∧ Q (.str (i ++ j)) H
abbrev rAddU (K : PySem.W.Frag) : R2 := rOr rAddI (rOr rAddS (rOr rCat (rCatT K)))
theorem op_addU {X : Cx} : OpR X (binaryOp .Add) (rAddU X.K) := op_or2 op_add (op_or2 op_add_str (op_or2 op_cat op_catT))
theorem o_add {i j : Int} (p : P (.d (.int (i + j))) M) : O2 J (rAddU J.K) (.d (.int i)) (.d (.int j)) M P := o_l (o_I0 (fun _ => Rp.int _) p)
theorem o_addS {i j : Str} (hl : i.length + j.length ≤ sizeLine) (p : P (.d (.str (i ++ j))) M) : O2 J (rAddU J.K) (.d (.str i)) (.d (.str j)) M P := o_r (o_l fun F Z H v u m xr r1 r2 Q q => by
  cases r1
  cases r2
  exact ⟨i, j, rfl, rfl, hl, q _ F H (.d (.str (i ++ j))) M (Same.refl F) m (Rp.str _) p⟩)
theorem o_cat {xs ys : List PyData} (hx : LH M x xs) (hy : LH M y ys) (hl : xs.length + ys.length ≤ sizeLine) (p : P (.d (.list (xs ++ ys))) M) : O2 J (rAddU J.K) x y M P := o_r (o_r (o_l fun F Z H v u m xr r1 r2 Q q => by
  obtain ⟨a, vs, rfl, e1, s1⟩ := lh_ok m r1 hx
  obtain ⟨b, ws, rfl, e2, s2⟩ := lh_ok m r2 hy
  refine ⟨_, _, _, _, rfl, rfl, e1, e2, by rw [s1.length, s2.length]; exact hl, fun a n => ?_⟩
  obtain ⟨s3, m3⟩ := m.newF (o := .lst _) n
  exact q _ _ _ (.d (.list (xs ++ ys))) M s3 m3 (Rp.lst upd_same ((s1.append s2).mono s3)) p))
def O2M (J : Jx) (r : R2) (x y : Ent) (M : Ms) (P : Ent → Ms → Prop) : Prop := O2 J r x y M P
theorem o_catM {xs ys : List PyData} (hx : LH M x xs) (hy : LH M y ys) (hl : xs.length + ys.length ≤ sizeLine) (p : P (.r M.length) (M ++ [some (.lst (xs ++ ys))])) : O2M J (rAddU J.K) x y M P := o_r (o_r (o_l fun F Z H v u m xr r1 r2 Q q => by
  obtain ⟨a, vs, rfl, e1, s1⟩ := lh_ok m r1 hx
  obtain ⟨b, ws, rfl, e2, s2⟩ := lh_ok m r2 hy
  refine ⟨_, _, _, _, rfl, rfl, e1, e2, by rw [s1.length, s2.length]; exact hl, fun a n => ?_⟩
  obtain ⟨s3, m3, r3⟩ := m.newM (o := .lst _) (m := .lst (xs ++ ys)) n ⟨_, rfl, s1.append s2⟩
  exact q _ _ _ (.r M.length) _ s3 m3 r3 p))
theorem o_catT {xs ys : List PyData} (hn : xs ≠ []) (hl : xs.length + ys.length ≤ sizeLine) (p : P (.d (.tuple (xs ++ ys))) M) : O2 J (rAddU J.K) (.d (.tuple xs)) (.d (.tuple ys)) M P := o_r (o_r (o_r fun F Z H v u m xr r1 r2 Q q => by
  cases r1 with
  | tup e1 s1 =>
    cases r2 with
    | tup e2 s2 =>
      refine ⟨_, _, _, _, rfl, rfl, sqT_mono m.sub e1, sqT_mono m.sub e2, fun z => hn ?_, by rw [s1.length, s2.length]; exact hl, fun z => ?_, fun _ a n => ?_⟩
      · have l := s1.length
        rw [z] at l
        exact List.eq_nil_of_length_eq_zero l.symm
      · have l := s2.length
        rw [z] at l
        have ey : ys = [] := List.eq_nil_of_length_eq_zero l.symm
        subst ey
        exact q _ F H (.d (.tuple (xs ++ []))) M (Same.refl F) m (by rw [List.append_nil]; exact Rp.tup e1 s1) p
      · obtain ⟨s3, m3⟩ := m.newF (o := .tup _) n
        exact q _ _ _ (.d (.tuple (xs ++ ys))) M s3 m3 (Rp.tup (.inl (.inl upd_same)) ((s1.append s2).mono s3)) p))
abbrev rSubI : R2 := rI0 fun i j => .int (i - j)
theorem o_sub {i j : Int} (p : P (.d (.int (i - j))) M) : O2 J rSubI (.d (.int i)) (.d (.int j)) M P := o_I0 (fun _ => Rp.int _) p
theorem o_mul {i j : Int} (hc : CMul i j) (p : P (.d (.int (i * j))) M) : O2 J (rI CMul fun i j => .int (i * j)) (.d (.int i)) (.d (.int j)) M P := o_I (fun _ => Rp.int _) hc p
theorem o_fdiv {i j : Int} (hc : CDivN i j) (p : P (.d (.int (i.fdiv j))) M) : O2 J (rI CDivN fun i j => .int (i.fdiv j)) (.d (.int i)) (.d (.int j)) M P := o_I (fun _ => Rp.int _) hc p
theorem o_mod {i j : Int} (hc : j ≠ 0) (p : P (.d (.int (i.fmod j))) M) : O2 J (rI (fun _ j => j ≠ 0) fun i j => .int (i.fmod j)) (.d (.int i)) (.d (.int j)) M P := o_I (fun _ => Rp.int _) hc p
theorem o_pow {i j : Int} (hc : CPow i j) (p : P (.d (.int (i ^ j.toNat))) M) : O2 J (rI CPow fun i j => .int (i ^ j.toNat)) (.d (.int i)) (.d (.int j)) M P := o_I (fun _ => Rp.int _) hc p
theorem o_neg {i : Int} (p : P (.d (.int (-i))) M) : O1 J (rU fun i => .int (-i)) (.d (.int i)) M P := fun F Z H v m xr r1 Q q => by
  cases r1
  exact ⟨i, rfl, q _ F H (.d (.int (-i))) M (Same.refl F) m (Rp.int _) p⟩
/-! < <= > >= -/
abbrev rLtU : R2 := rOr (rI0 fun i j => .bl (decide (i < j))) (fun x y H Q => ∃ i j, x = .str i ∧ y = .str j ∧ Q (.bl (decide (i.cps.toList < j.cps.toList))) H)
abbrev rLeU : R2 := rOr (rI0 fun i j => .bl (decide (i ≤ j))) (fun x y H Q => ∃ i j, x = .str i ∧ y = .str j ∧ Q (.bl (!decide (j.cps.toList < i.cps.toList))) H)
abbrev rGtU : R2 := rOr (rI0 fun i j => .bl (decide (j < i))) (fun x y H Q => ∃ i j, x = .str i ∧ y = .str j ∧ Q (.bl (decide (j.cps.toList < i.cps.toList))) H)
abbrev rGeU : R2 := rOr (rI0 fun i j => .bl (decide (j ≤ i))) (fun x y H Q => ∃ i j, x = .str i ∧ y = .str j ∧ Q (.bl (!decide (i.cps.toList < j.cps.toList))) H)
theorem op_ltU {X : Cx} : OpR X (compareOp .Lt) rLtU := op_or2 op_lt op_lt_str
theorem op_leU {X : Cx} : OpR X (compareOp .LtE) rLeU := op_or2 op_le op_le_str
theorem op_gtU {X : Cx} : OpR X (compareOp .Gt) rGtU := op_or2 op_gt op_gt_str
theorem op_geU {X : Cx} : OpR X (compareOp .GtE) rGeU := op_or2 op_ge op_ge_str
theorem o_lt {i j : Int} (p : P (.d (.bool (decide (i < j)))) M) : O2 J rLtU (.d (.int i)) (.d (.int j)) M P := o_l (o_I0 (fun _ => Rp.bl _) p)
theorem o_le {i j : Int} (p : P (.d (.bool (decide (i ≤ j)))) M) : O2 J rLeU (.d (.int i)) (.d (.int j)) M P := o_l (o_I0 (fun _ => Rp.bl _) p)
theorem o_gt {i j : Int} (p : P (.d (.bool (decide (j < i)))) M) : O2 J rGtU (.d (.int i)) (.d (.int j)) M P := o_l (o_I0 (fun _ => Rp.bl _) p)
theorem o_ge {i j : Int} (p : P (.d (.bool (decide (j ≤ i)))) M) : O2 J rGeU (.d (.int i)) (.d (.int j)) M P := o_l (o_I0 (fun _ => Rp.bl _) p)
theorem o_SS {g : Str → Str → V} {d : PyData} {i j : Str} (hg : ∀ F, Rp J.K F (g i j) d) (p : P (.d d) M) : O2 J (fun x y H Q => ∃ i j, x = .str i ∧ y = .str j ∧ Q (g i j) H) (.d (.str i)) (.d (.str j)) M P := fun F Z H v u m xr r1 r2 Q q => by
  cases r1
  cases r2
  exact ⟨i, j, rfl, rfl, q _ F H (.d d) M (Same.refl F) m (hg F) p⟩
theorem o_ltS {i j : Str} (p : P (.d (.bool (decide (i.cps.toList < j.cps.toList)))) M) : O2 J rLtU (.d (.str i)) (.d (.str j)) M P := o_r (o_SS (g := fun i j => .bl (decide (i.cps.toList < j.cps.toList))) (fun _ => Rp.bl _) p)
theorem o_leS {i j : Str} (p : P (.d (.bool (!decide (j.cps.toList < i.cps.toList)))) M) : O2 J rLeU (.d (.str i)) (.d (.str j)) M P := o_r (o_SS (g := fun i j => .bl (!decide (j.cps.toList < i.cps.toList))) (fun _ => Rp.bl _) p)
theorem o_gtS {i j : Str} (p : P (.d (.bool (decide (j.cps.toList < i.cps.toList)))) M) : O2 J rGtU (.d (.str i)) (.d (.str j)) M P := o_r (o_SS (g := fun i j => .bl (decide (j.cps.toList < i.cps.toList))) (fun _ => Rp.bl _) p)
/-! == != -/
theorem o_eqD {a b : PyData} (dx : DV M x a) (dy : DV M y b) (ha : noObj a = true) (hb : noObj b = true) (sa : SeqAt.shaped a = true) (sb : SeqAt.shaped b = true) (p : P (.d (.bool (PyData.eqv a b))) M) : O2 J (rEqD J.K) x y M P := fun F Z H v u m xr r1 r2 Q q =>
  ⟨a, b, dv_ok m r1 dx ha, dv_ok m r2 dy hb, sa, sb, q _ F H (.d (.bool _)) M (Same.refl F) m (Rp.bl _) p⟩
theorem o_neD {a b : PyData} (dx : DV M x a) (dy : DV M y b) (ha : noObj a = true) (hb : noObj b = true) (sa : SeqAt.shaped a = true) (sb : SeqAt.shaped b = true) (p : P (.d (.bool (!PyData.eqv a b))) M) : O2 J (rNeD J.K) x y M P := fun F Z H v u m xr r1 r2 Q q =>
  ⟨a, b, dv_ok m r1 dx ha, dv_ok m r2 dy hb, sa, sb, q _ F H (.d (.bool _)) M (Same.refl F) m (Rp.bl _) p⟩
abbrev rEqU (K : PySem.W.Frag) : R2 := rOr rEq (rEqD K)
abbrev rNeU (K : PySem.W.Frag) : R2 := rOr rNe (rNeD K)
theorem op_eqU {X : Cx} (hu : X.A.units + 64 < cLine) : OpR X (compareOp .Eq) (rEqU X.K) := op_or2 op_eq (op_eqD hu)
theorem op_neU {X : Cx} (hu : X.A.units + 64 < cLine) : OpR X (compareOp .NotEq) (rNeU X.K) := op_or2 op_ne (op_neD hu)
/-- scalars by their values -/
def sv : PyData → Option V
  | .none => some .non
  | .bool b => some (.bl b)
  | .int i => some (.int i)
  | .str s => some (.str s)
  | _ => none
theorem rp_sv {K : PySem.W.Frag} {F : Wd} {v z : V} {d : PyData} (r : Rp K F v d) (h : sv d = some z) : v = z := by
  cases r <;> simp [sv] at h <;> exact h
theorem o_eqS {a b : PyData} {z w : V} (ha : sv a = some z) (hb : sv b = some w) (hs : scal z w = true) (p : P (.d (.bool (decide (z = w)))) M) : O2 J (rEqU J.K) (.d a) (.d b) M P := o_l fun F Z H v u m xr r1 r2 Q q => by
  rw [rp_sv r1 ha, rp_sv r2 hb]
  exact ⟨hs, q _ F H (.d (.bool _)) M (Same.refl F) m (Rp.bl _) p⟩
theorem o_neS {a b : PyData} {z w : V} (ha : sv a = some z) (hb : sv b = some w) (hs : scal z w = true) (p : P (.d (.bool (!decide (z = w)))) M) : O2 J (rNeU J.K) (.d a) (.d b) M P := o_l fun F Z H v u m xr r1 r2 Q q => by
  rw [rp_sv r1 ha, rp_sv r2 hb]
  exact ⟨hs, q _ F H (.d (.bool _)) M (Same.refl F) m (Rp.bl _) p⟩
theorem o_eq {i j : Int} (p : P (.d (.bool (decide (i = j)))) M) : O2 J (rEqU J.K) (.d (.int i)) (.d (.int j)) M P := o_eqS rfl rfl rfl (by simpa using p)
theorem o_ne {i j : Int} (p : P (.d (.bool (!decide (i = j)))) M) : O2 J (rNeU J.K) (.d (.int i)) (.d (.int j)) M P := o_neS rfl rfl rfl (by simpa using p)
theorem o_eqT {i j : Str} (p : P (.d (.bool (decide (i = j)))) M) : O2 J (rEqU J.K) (.d (.str i)) (.d (.str j)) M P := o_eqS rfl rfl rfl (by simpa using p)
theorem o_neT {i j : Str} (p : P (.d (.bool (!decide (i = j)))) M) : O2 J (rNeU J.K) (.d (.str i)) (.d (.str j)) M P := o_neS rfl rfl rfl (by simpa using p)
theorem o_eqB {i j : Bool} (p : P (.d (.bool (decide (i = j)))) M) : O2 J (rEqU J.K) (.d (.bool i)) (.d (.bool j)) M P := o_eqS rfl rfl rfl (by simpa using p)
theorem o_eqL {a b : PyData} (dx : DV M x a) (dy : DV M y b) (ha : noObj a = true) (hb : noObj b = true) (sa : SeqAt.shaped a = true) (sb : SeqAt.shaped b = true) (p : P (.d (.bool (PyData.eqv a b))) M) : O2 J (rEqU J.K) x y M P := o_r (o_eqD dx dy ha hb sa sb p)
theorem o_neL {a b : PyData} (dx : DV M x a) (dy : DV M y b) (ha : noObj a = true) (hb : noObj b = true) (sa : SeqAt.shaped a = true) (sb : SeqAt.shaped b = true) (p : P (.d (.bool (!PyData.eqv a b))) M) : O2 J (rNeU J.K) x y M P := o_r (o_neD dx dy ha hb sa sb p)
/-! is None -/
def isN : Ent → Bool
  | .d .none => true
  | _ => false
theorem re_isN {K : PySem.W.Frag} {F : Wd} {v : V} {e : Ent} (r : RE K F v e) : decide (v = .non) = isN e := by
  cases e with
  | d x => cases r <;> rfl
  | r a =>
    obtain ⟨b, _, rfl⟩ := r
    rfl
  | t n => cases r; rfl
  | g n => cases r; rfl
  | w xs =>
    obtain ⟨a, vs, rfl, _⟩ := r
    rfl
theorem o_isN (p : P (.d (.bool (isN x))) M) : O2 J rIsN x (.d .none) M P := fun F Z H v u m xr r1 r2 Q q => by
  cases r2
  exact ⟨rfl, q _ F H (.d (.bool (isN x))) M (Same.refl F) m (by rw [re_isN r1]; exact Rp.bl _) p⟩
theorem o_notN (p : P (.d (.bool (!isN x))) M) : O2 J rNotN x (.d .none) M P := fun F Z H v u m xr r1 r2 Q q => by
  cases r2
  exact ⟨rfl, q _ F H (.d (.bool (!isN x))) M (Same.refl F) m (by rw [re_isN r1]; exact Rp.bl _) p⟩
/-! in -/
abbrev rInU (K : PySem.W.Frag) : R2 := rOr rInS (rOr (fun x y H Q => ∃ i j, x = .str i ∧ y = .str j ∧ Q (.bl (!(Builtin.Str.occurrences j i 0 j.length 1).isEmpty)) H) (rIn K false))
abbrev rNotInU (K : PySem.W.Frag) : R2 := rOr rNotInS (rOr (fun x y H Q => ∃ i j, x = .str i ∧ y = .str j ∧ Q (.bl (!(!(Builtin.Str.occurrences j i 0 j.length 1).isEmpty))) H) (rIn K true))
theorem op_inU {X : Cx} : OpR X (compareOp .In) (rInU X.K) := op_or2 op_in_sign (op_or2 op_in_str op_in_seq)
theorem op_notInU {X : Cx} : OpR X (compareOp .NotIn) (rNotInU X.K) := op_or2 op_notIn_sign (op_or2 op_notin_str op_notIn_seq)
theorem o_inC {c : Nat} {z : Str} (p : P (.d (.bool (decide (c ∈ z.cps.toList)))) M) : O2 J (rInU J.K) (.d (.str ⟨#[c]⟩)) (.d (.str z)) M P := o_l fun F Z H v u m xr r1 r2 Q q => by
  cases r1
  cases r2
  exact ⟨c, z, rfl, rfl, q _ F H (.d (.bool _)) M (Same.refl F) m (Rp.bl _) p⟩
theorem o_notInC {c : Nat} {z : Str} (p : P (.d (.bool (!decide (c ∈ z.cps.toList)))) M) : O2 J (rNotInU J.K) (.d (.str ⟨#[c]⟩)) (.d (.str z)) M P := o_l fun F Z H v u m xr r1 r2 Q q => by
  cases r1
  cases r2
  exact ⟨c, z, rfl, rfl, q _ F H (.d (.bool _)) M (Same.refl F) m (Rp.bl _) p⟩
theorem o_inT {i j : Str} (p : P (.d (.bool (!(Builtin.Str.occurrences j i 0 j.length 1).isEmpty))) M) : O2 J (rInU J.K) (.d (.str i)) (.d (.str j)) M P := o_r (o_l (o_SS (g := fun i j => .bl (!(Builtin.Str.occurrences j i 0 j.length 1).isEmpty)) (fun _ => Rp.bl _) p))
theorem inV_strs (s : Str) (ss : List Str) : inV (.str s) (ss.map V.str) = decide (s ∈ ss) := by
  induction ss with
  | nil => rfl
  | cons t ts ih =>
    show (eqV (.str t) (.str s) || inV (.str s) (ts.map V.str)) = _
    rw [ih]
    show ((t == s) || decide (s ∈ ts)) = _
    by_cases h : t = s
    · subst h
      simp
    · have h' : ¬ s = t := fun e => h e.symm
      simp [h, h']
theorem flat_strs (ss : List Str) : (ss.map V.str).all flatV = true := by
  induction ss with
  | nil => rfl
  | cons t ts ih => exact ih
theorem o_inTs {s : Str} {ss : List Str} (p : P (.d (.bool (decide (s ∈ ss)))) M) : O2 J (rInU J.K) (.d (.str s)) (.d (.tuple (ss.map PyData.str))) M P := o_r (o_r fun F Z H v u m xr r1 r2 Q q => by
  cases r1
  cases r2 with
  | tup e rs =>
    have ev := rs.strs
    subst ev
    refine ⟨_, _, rfl, .inr (sqT_mono m.sub e), rfl, flat_strs ss, ?_⟩
    rw [if_neg Bool.false_ne_true, inV_strs]
    exact q _ F H (.d (.bool _)) M (Same.refl F) m (Rp.bl _) p)
theorem o_notInTs {s : Str} {ss : List Str} (p : P (.d (.bool (!decide (s ∈ ss)))) M) : O2 J (rNotInU J.K) (.d (.str s)) (.d (.tuple (ss.map PyData.str))) M P := o_r (o_r fun F Z H v u m xr r1 r2 Q q => by
  cases r1
  cases r2 with
  | tup e rs =>
    have ev := rs.strs
    subst ev
    refine ⟨_, _, rfl, .inr (sqT_mono m.sub e), rfl, flat_strs ss, ?_⟩
    rw [if_pos rfl, inV_strs]
    exact q _ F H (.d (.bool _)) M (Same.refl F) m (Rp.bl _) p)
theorem inV_ints (s : Int) (ss : List Int) : inV (.int s) (ss.map V.int) = decide (s ∈ ss) := by
  induction ss with
  | nil => rfl
  | cons t ts ih =>
    show (eqV (.int t) (.int s) || inV (.int s) (ts.map V.int)) = _
    rw [ih]
    show ((t == s) || decide (s ∈ ts)) = _
    by_cases h : t = s
    · subst h
      simp
    · have h' : ¬ s = t := fun e => h e.symm
      simp [h, h']
theorem flat_ints (ss : List Int) : (ss.map V.int).all flatV = true := by
  induction ss with
  | nil => rfl
  | cons t ts ih => exact ih
theorem o_inLs {s : Str} {ss : List Str} {ds : List PyData} (hd : LD M y ds) (hs : ds = ss.map PyData.str) (p : P (.d (.bool (decide (s ∈ ss)))) M) : O2 J (rInU J.K) (.d (.str s)) y M P := o_r (o_r fun F Z H v u m xr r1 r2 Q q => by
  subst hs
  cases r1
  obtain ⟨a, vs, rfl, e, rs⟩ := ld_ok m r2 hd
  have ev := rs.strs
  subst ev
  refine ⟨_, _, rfl, .inl e, rfl, flat_strs ss, ?_⟩
  rw [if_neg Bool.false_ne_true, inV_strs]
  exact q _ F H (.d (.bool _)) M (Same.refl F) m (Rp.bl _) p)
theorem o_notInLs {s : Str} {ss : List Str} {ds : List PyData} (hd : LD M y ds) (hs : ds = ss.map PyData.str) (p : P (.d (.bool (!decide (s ∈ ss)))) M) : O2 J (rNotInU J.K) (.d (.str s)) y M P := o_r (o_r fun F Z H v u m xr r1 r2 Q q => by
  subst hs
  cases r1
  obtain ⟨a, vs, rfl, e, rs⟩ := ld_ok m r2 hd
  have ev := rs.strs
  subst ev
  refine ⟨_, _, rfl, .inl e, rfl, flat_strs ss, ?_⟩
  rw [if_pos rfl, inV_strs]
  exact q _ F H (.d (.bool _)) M (Same.refl F) m (Rp.bl _) p)
theorem o_inLi {s : Int} {ss : List Int} {ds : List PyData} (hd : LD M y ds) (hs : ds = ss.map PyData.int) (p : P (.d (.bool (decide (s ∈ ss)))) M) : O2 J (rInU J.K) (.d (.int s)) y M P := o_r (o_r fun F Z H v u m xr r1 r2 Q q => by
  subst hs
  cases r1
  obtain ⟨a, vs, rfl, e, rs⟩ := ld_ok m r2 hd
  have ev := rs.ints
  subst ev
  refine ⟨_, _, rfl, .inl e, rfl, flat_ints ss, ?_⟩
  rw [if_neg Bool.false_ne_true, inV_ints]
  exact q _ F H (.d (.bool _)) M (Same.refl F) m (Rp.bl _) p)
theorem o_notInLi {s : Int} {ss : List Int} {ds : List PyData} (hd : LD M y ds) (hs : ds = ss.map PyData.int) (p : P (.d (.bool (!decide (s ∈ ss)))) M) : O2 J (rNotInU J.K) (.d (.int s)) y M P := o_r (o_r fun F Z H v u m xr r1 r2 Q q => by
  subst hs
  cases r1
  obtain ⟨a, vs, rfl, e, rs⟩ := ld_ok m r2 hd
  have ev := rs.ints
  subst ev
  refine ⟨_, _, rfl, .inl e, rfl, flat_ints ss, ?_⟩
  rw [if_pos rfl, inV_ints]
  exact q _ F H (.d (.bool _)) M (Same.refl F) m (Rp.bl _) p)
/-! items -/
theorem atI_map {α β : Type} (f : α → β) (xs : List α) (i : Int) : atI (xs.map f) i = (atI xs i).map f := by
  unfold atI
  rw [List.length_map]
  cases ixN xs.length i with
  | none => rfl
  | some j => simp
theorem atI_ex {K : PySem.W.Frag} {F : Wd} {vs : List V} {ds : List PyData} {i : Int} {d : PyData} (r : RpAll K F vs ds) (h : atI ds i = some d) : ∃ v, atI vs i = some v ∧ Rp K F v d := by
  unfold atI at h ⊢
  rw [r.length]
  cases e : ixN ds.length i with
  | none =>
    rw [e] at h
    cases h
  | some j =>
    rw [e] at h
    exact r.exGet h
theorem atE_ex {K : PySem.W.Frag} {F : Wd} {vs : List V} {ds : List Ent} {i : Int} {d : Ent} (r : REs K F vs ds) (h : atI ds i = some d) : ∃ v, atI vs i = some v ∧ RE K F v d := by
  unfold atI at h ⊢
  rw [r.length]
  cases e : ixN ds.length i with
  | none =>
    rw [e] at h
    cases h
  | some j =>
    rw [e] at h
    exact paired_get r h
theorem ixN_nat {n : Nat} {i : Int} (h0 : 0 ≤ i) (h1 : i < n) : ixN n i = some i.toNat := by
  unfold ixN
  rw [if_pos h0, if_pos h1]
theorem atI_nat' {α : Type} {xs : List α} {i : Int} {x : α} (h0 : 0 ≤ i) (h : xs[i.toNat]? = some x) : atI xs i = some x := by
  have h1 := (List.getElem?_eq_some_iff.mp h).1
  unfold atI
  rw [ixN_nat h0 (by omega)]
  exact h
theorem o_ixL {ds : List PyData} {i : Int} {d : PyData} (hd : LD M x ds) (h : atI ds i = some d) (p : P (.d d) M) : O2 J (rIx J.K) x (.d (.int i)) M P := fun F Z H v u m xr r1 r2 Q q => by
  cases r2
  obtain ⟨a, vs, rfl, e, rs⟩ := ld_ok m r1 hd
  obtain ⟨v, h1, h2⟩ := atI_ex rs h
  exact .inl ⟨_, _, i, v, rfl, rfl, e, h1, q v F H (.d d) M (Same.refl F) m h2 p⟩
theorem o_ixT {ds : List PyData} {i : Int} {d : PyData} (h : atI ds i = some d) (p : P (.d d) M) : O2 J (rIx J.K) (.d (.tuple ds)) (.d (.int i)) M P := fun F Z H v u m xr r1 r2 Q q => by
  cases r2
  cases r1 with
  | tup e rs =>
    obtain ⟨v, h1, h2⟩ := atI_ex rs h
    exact .inr (.inl ⟨_, _, i, v, rfl, rfl, sqT_mono m.sub e, h1, q v F H (.d d) M (Same.refl F) m h2 p⟩)
theorem o_ixE {n : Nat} {es : List Ent} {i : Int} {d : Ent} (hm : M[n]? = some (some (.lsE es))) (h : atI es i = some d) (p : P d M) : O2 J (rIx J.K) (.r n) (.d (.int i)) M P := fun F Z H v u m xr r1 r2 Q q => by
  cases r2
  obtain ⟨b, eb, rfl⟩ := r1
  obtain ⟨a, vs, h0, _, e, rs⟩ := m.lsE hm
  rw [eb] at h0
  cases h0
  obtain ⟨v, h1, h2⟩ := atE_ex rs h
  exact .inl ⟨_, _, i, v, rfl, rfl, .inl (.inl e), h1, q v F H d M (Same.refl F) m h2 p⟩
theorem o_ixS {s : Str} {i : Int} {c : Nat} (hl : s.length ≤ sizeLine) (h : atI s.cps.toList i = some c) (p : P (.d (.str ⟨#[c]⟩)) M) : O2 J (rIx J.K) (.d (.str s)) (.d (.int i)) M P := fun F Z H v u m xr r1 r2 Q q => by
  cases r2
  cases r1
  exact .inr (.inr ⟨s, i, c, rfl, rfl, hl, h, q _ F H (.d (.str ⟨#[c]⟩)) M (Same.refl F) m (Rp.str _) p⟩)
end
/-! ## calls of built-ins -/
section
variable {J : Jx} {Γ : Ga} {M : Ms} {P : Ent → Ms → Prop} {r r' : List V → Hp → VK → Prop} {xs : List Ent} {t : TA}
def rOrN (r r' : List V → Hp → VK → Prop) : List V → Hp → VK → Prop := fun x H Q => r x H Q ∨ r' x H Q
theorem call_or {X : Cx} {f : Value} (h : CallR X f r) (h' : CallR X f r') : CallR X f (rOrN r r') := fun pins s σ H xs us Q I rx q => q.elim (h pins s σ H xs us Q I rx) (h' pins s σ H xs us Q I rx)
theorem n_l (h : ON J r xs M P) : ON J (rOrN r r') xs M P := fun F Z H vs m xr r1 Q q => .inl (h F Z H vs m xr r1 Q q)
theorem n_r (h : ON J r' xs M P) : ON J (rOrN r r') xs M P := fun F Z H vs m xr r1 Q q => .inr (h F Z H vs m xr r1 Q q)
theorem w_cb (h : WA J t Γ M fun es M1 => ON J r es M1 P) : Wx J (tCB r t) Γ M P := fun F Z σ H en m x Q q =>
  h F Z σ H en m x _ fun vs F1 H1 es M1 s1 m1 r1 h1 => h1 F1 Z H1 vs m1 (x.mono s1) r1 Q fun v F2 H2 e M2 s2 m2 r2 p => q v F2 H2 e M2 (s1.trans s2) m2 r2 p
theorem w_cb0 (h : ON J r [] M P) : Wx J (tCB r tNil) Γ M P := w_cb (wa_nil h)
abbrev rLenU (K : PySem.W.Frag) : List V → Hp → VK → Prop := fun xs H Q => ∃ x n, xs = [x] ∧ LenV K x H n ∧ Q (.int n) H
theorem n_lenS {s : Str} (hl : s.length ≤ sizeLine) (p : P (.d (.int (s.length : Int))) M) : ON J (rLenU J.K) [.d (.str s)] M P := fun F Z H vs m xr r1 Q q => by
  cases r1 with
  | cons r0 rt =>
    cases rt
    cases r0
    exact ⟨_, _, rfl, ⟨hl, rfl⟩, q _ F H (.d (.int _)) M (Same.refl F) m (Rp.int _) p⟩
theorem n_lenL {x : Ent} {ds : List PyData} (hd : LD M x ds) (p : P (.d (.int (ds.length : Int))) M) : ON J (rLenU J.K) [x] M P := fun F Z H vs m xr r1 Q q => by
  cases r1 with
  | cons r0 rt =>
    cases rt
    obtain ⟨a, vs, rfl, e, rs⟩ := ld_ok m r0 hd
    exact ⟨_, _, rfl, .inl ⟨_, e, rs.length.symm⟩, q _ F H (.d (.int _)) M (Same.refl F) m (Rp.int _) p⟩
theorem n_lenT {ds : List PyData} (p : P (.d (.int (ds.length : Int))) M) : ON J (rLenU J.K) [.d (.tuple ds)] M P := fun F Z H vs m xr r1 Q q => by
  cases r1 with
  | cons r0 rt =>
    cases rt
    cases r0 with
    | tup e rs => exact ⟨_, _, rfl, .inr ⟨_, sqT_mono m.sub e, rs.length.symm⟩, q _ F H (.d (.int _)) M (Same.refl F) m (Rp.int _) p⟩
theorem n_lenE {n : Nat} {es : List Ent} (hm : M[n]? = some (some (.lsE es))) (p : P (.d (.int (es.length : Int))) M) : ON J (rLenU J.K) [.r n] M P := fun F Z H vs m xr r1 Q q => by
  cases r1 with
  | cons r0 rt =>
    cases rt
    obtain ⟨b, eb, rfl⟩ := r0
    obtain ⟨a, vs, h0, _, e, rs⟩ := m.lsE hm
    rw [eb] at h0
    cases h0
    exact ⟨_, _, rfl, .inl ⟨_, .inl (.inl e), rs.length.symm⟩, q _ F H (.d (.int _)) M (Same.refl F) m (Rp.int _) p⟩
theorem n_abs {i : Int} (p : P (.d (.int (if i < 0 then -i else i))) M) : ON J (fun xs H Q => ∃ i, xs = [.int i] ∧ Q (.int (if i < 0 then -i else i)) H) [.d (.int i)] M P := fun F Z H vs m xr r1 Q q => by
  cases r1 with
  | cons r0 rt =>
    cases rt
    cases r0
    exact ⟨_, rfl, q _ F H (.d (.int _)) M (Same.refl F) m (Rp.int _) p⟩
theorem n_max2 {i j : Int} (p : P (.d (.int (if j > i then j else i))) M) : ON J (fun xs H Q => ∃ i j, xs = [.int i, .int j] ∧ Q (.int (if j > i then j else i)) H) [.d (.int i), .d (.int j)] M P := fun F Z H vs m xr r1 Q q => by
  cases r1 with
  | cons r0 rt =>
    cases rt with
    | cons r2 rt =>
      cases rt
      cases r0
      cases r2
      exact ⟨_, _, rfl, q _ F H (.d (.int _)) M (Same.refl F) m (Rp.int _) p⟩
theorem n_min2 {i j : Int} (p : P (.d (.int (if j < i then j else i))) M) : ON J (fun xs H Q => ∃ i j, xs = [.int i, .int j] ∧ Q (.int (if j < i then j else i)) H) [.d (.int i), .d (.int j)] M P := fun F Z H vs m xr r1 Q q => by
  cases r1 with
  | cons r0 rt =>
    cases rt with
    | cons r2 rt =>
      cases rt
      cases r0
      cases r2
      exact ⟨_, _, rfl, q _ F H (.d (.int _)) M (Same.refl F) m (Rp.int _) p⟩
abbrev rIntU : List V → Hp → VK → Prop := rOrN (fun xs H Q => (∃ i, xs = [.int i] ∧ Q (.int i) H) ∨ ∃ k, xs = [.bl k] ∧ Q (.int (if k then 1 else 0)) H) (fun xs H Q => ∃ a n, xs = [.str a] ∧ PySem.intText? a = some n ∧ a.length ≤ 640 ∧ Q (.int n) H)
theorem call_intU {X : Cx} : CallR X (.type "int") rIntU := call_or call_int1 call_int_str
theorem n_int {i : Int} (p : P (.d (.int i)) M) : ON J rIntU [.d (.int i)] M P := n_l fun F Z H vs m xr r1 Q q => by
  cases r1 with
  | cons r0 rt =>
    cases rt
    cases r0
    exact .inl ⟨_, rfl, q _ F H (.d (.int _)) M (Same.refl F) m (Rp.int _) p⟩
theorem n_intS {s : Str} {n : Int} (h : PySem.intText? s = some n) (hl : s.length ≤ 640) (p : P (.d (.int n)) M) : ON J rIntU [.d (.str s)] M P := n_r fun F Z H vs m xr r1 Q q => by
  cases r1 with
  | cons r0 rt =>
    cases rt
    cases r0
    exact ⟨_, _, rfl, h, hl, q _ F H (.d (.int _)) M (Same.refl F) m (Rp.int _) p⟩
theorem n_ord {c : Nat} (p : P (.d (.int (c : Int))) M) : ON J (fun xs H Q => ∃ x, xs = [.str x] ∧ x.length = 1 ∧ Q (.int (x.cps.getD 0 0 : Nat)) H) [.d (.str ⟨#[c]⟩)] M P := fun F Z H vs m xr r1 Q q => by
  cases r1 with
  | cons r0 rt =>
    cases rt
    cases r0
    exact ⟨_, rfl, rfl, q _ F H (.d (.int (c : Int))) M (Same.refl F) m (Rp.int _) p⟩
theorem n_sum {x : Ent} {ds : List PyData} {ns : List Int} (hd : LD M x ds) (he : ds = ns.map PyData.int) (p : P (.d (.int ns.sum)) M) : ON J (rSum J.K) [x] M P := fun F Z H vs m xr r1 Q q => by
  subst he
  cases r1 with
  | cons r0 rt =>
    cases rt
    obtain ⟨a, vs, rfl, e, rs⟩ := ld_ok m r0 hd
    have ev := rs.ints
    subst ev
    exact ⟨_, ns, rfl, e, q _ F H (.d (.int _)) M (Same.refl F) m (Rp.int _) p⟩
theorem n_all {x : Ent} {ds : List PyData} {bs : List Bool} (hd : LD M x ds) (he : ds = bs.map PyData.bool) (p : P (.d (.bool (bs.all id))) M) : ON J (rAll J.K) [x] M P := fun F Z H vs m xr r1 Q q => by
  subst he
  cases r1 with
  | cons r0 rt =>
    cases rt
    obtain ⟨a, vs, rfl, e, rs⟩ := ld_ok m r0 hd
    have ev := rs.bls
    subst ev
    exact ⟨_, bs, rfl, e, q _ F H (.d (.bool _)) M (Same.refl F) m (Rp.bl _) p⟩
theorem n_any {x : Ent} {ds : List PyData} {bs : List Bool} (hd : LD M x ds) (he : ds = bs.map PyData.bool) (p : P (.d (.bool (bs.any id))) M) : ON J (rAny J.K) [x] M P := fun F Z H vs m xr r1 Q q => by
  subst he
  cases r1 with
  | cons r0 rt =>
    cases rt
    obtain ⟨a, vs, rfl, e, rs⟩ := ld_ok m r0 hd
    have ev := rs.bls
    subst ev
    exact ⟨_, bs, rfl, e, q _ F H (.d (.bool _)) M (Same.refl F) m (Rp.bl _) p⟩
def ONM (J : Jx) (r : List V → Hp → VK → Prop) (xs : List Ent) (M : Ms) (P : Ent → Ms → Prop) : Prop := ON J r xs M P
abbrev rListU (K : PySem.W.Frag) : List V → Hp → VK → Prop := fun xs H Q => ∃ p ys, xs = [.ref p] ∧ (SqL K H p ys ∨ SqT K H p ys) ∧ ∀ l, H l = none → Q (.ref l) (upd H l (.lst ys))
theorem n_list {x : Ent} {ds : List PyData} (hd : LD M x ds) (p : P (.d (.list ds)) M) : ON J (rListU J.K) [x] M P := fun F Z H vs m xr r1 Q q => by
  cases r1 with
  | cons r0 rt =>
    cases rt
    obtain ⟨a, vs, rfl, e, rs⟩ := ld_ok m r0 hd
    refine ⟨_, _, rfl, .inl e, fun a n => ?_⟩
    obtain ⟨s3, m3⟩ := m.newF (o := .lst _) n
    exact q _ _ _ (.d (.list ds)) M s3 m3 (Rp.lst upd_same (rs.mono s3)) p
theorem n_listM {x : Ent} {ds : List PyData} (hd : LD M x ds) (p : P (.r M.length) (M ++ [some (.lst ds)])) : ONM J (rListU J.K) [x] M P := fun F Z H vs m xr r1 Q q => by
  cases r1 with
  | cons r0 rt =>
    cases rt
    obtain ⟨a, vs, rfl, e, rs⟩ := ld_ok m r0 hd
    refine ⟨_, _, rfl, .inl e, fun a n => ?_⟩
    obtain ⟨s3, m3, r3⟩ := m.newM (o := .lst _) (m := .lst ds) n ⟨_, rfl, rs⟩
    exact q _ _ _ (.r M.length) _ s3 m3 r3 p
theorem n_listT {ds : List PyData} (p : P (.d (.list ds)) M) : ON J (rListU J.K) [.d (.tuple ds)] M P := fun F Z H vs m xr r1 Q q => by
  cases r1 with
  | cons r0 rt =>
    cases rt
    cases r0 with
    | tup e rs =>
      refine ⟨_, _, rfl, .inr (sqT_mono m.sub e), fun a n => ?_⟩
      obtain ⟨s3, m3⟩ := m.newF (o := .lst _) n
      exact q _ _ _ (.d (.list ds)) M s3 m3 (Rp.lst upd_same (rs.mono s3)) p
theorem n_listTM {ds : List PyData} (p : P (.r M.length) (M ++ [some (.lst ds)])) : ONM J (rListU J.K) [.d (.tuple ds)] M P := fun F Z H vs m xr r1 Q q => by
  cases r1 with
  | cons r0 rt =>
    cases rt
    cases r0 with
    | tup e rs =>
      refine ⟨_, _, rfl, .inr (sqT_mono m.sub e), fun a n => ?_⟩
      obtain ⟨s3, m3, r3⟩ := m.newM (o := .lst _) (m := .lst ds) n ⟨_, rfl, rs⟩
      exact q _ _ _ (.r M.length) _ s3 m3 r3 p
end
/-! ## methods of built-in types -/
section
variable {J : Jx} {Γ : Ga} {M : Ms} {P : Ent → Ms → Prop} {r : V → List V → Hp → VK → Prop} {x : Ent} {to te : TE} {t : TA} {T : String}
/-- the type of a value that has methods -/
def TyM (M : Ms) (T : String) : Ent → Prop
  | .d (.str _) => T = "str"
  | .d (.int _) => T = "int"
  | .d (.list _) => T = "list"
  | .w _ => T = "list"
  | .r n => (T = "list" ∧ ((∃ ds, M[n]? = some (some (.lst ds))) ∨ ∃ es, M[n]? = some (some (.lsE es))))
  | _ => False
theorem tyM_ok {K : PySem.W.Frag} {F : Wd} {Z H : Hp} {v : V} {e : Ent} (m : Mem K F M Z H) (r : RE K F v e) (h : TyM M T e) : tyV K T v H := by
  cases e with
  | d x =>
    cases r with
    | str s => exact h
    | int s => exact h
    | lst e rs => exact .inl ⟨h, _, .inl (.inl (m.sub _ _ e))⟩
    | non => exact (h : False).elim
    | bl _ => exact (h : False).elim
    | tup _ _ => exact (h : False).elim
    | obj _ _ => exact (h : False).elim
  | r n =>
    obtain ⟨b, eb, rfl⟩ := r
    obtain ⟨h1, ⟨ds, h2⟩ | ⟨es, h2⟩⟩ := h
    · obtain ⟨a, vs, h0, _, e, _⟩ := m.lst h2
      rw [eb] at h0
      cases h0
      exact .inl ⟨h1, vs, .inl (.inl e)⟩
    · obtain ⟨a, vs, h0, _, e, _⟩ := m.lsE h2
      rw [eb] at h0
      cases h0
      exact .inl ⟨h1, vs, .inl (.inl e)⟩
  | t n => exact (h : False).elim
  | g n => exact (h : False).elim
  | w xs =>
    obtain ⟨a, vs, rfl, e, rs⟩ := r
    exact .inl ⟨h, vs, m.sub.seq e⟩
theorem w_bm (h : Wx J to Γ M fun x M1 => TyM M1 T x ∧ WA J t Γ M1 fun es M2 => OM J r x es M2 P) : Wx J (tBM J.K T r to t) Γ M P := fun F Z σ H en m x Q q =>
  h F Z σ H en m x _ fun v F1 H1 e1 M1 s1 m1 r1 ⟨ht, h1⟩ => ⟨tyM_ok m1 r1 ht, h1 F1 Z σ H1 (en.mono s1) m1 (x.mono s1) _ fun vs F2 H2 es M2 s2 m2 r2 h2 =>
    h2 F2 Z H2 v vs m2 (x.mono (s1.trans s2)) (r1.mono s2) r2 Q fun w F3 H3 e3 M3 s3 m3 r3 p => q w F3 H3 e3 M3 ((s1.trans s2).trans s3) m3 r3 p⟩
theorem w_bm0 (h : Wx J to Γ M fun x M1 => TyM M1 T x ∧ OM J r x [] M1 P) : Wx J (tBM0 J.K T r to) Γ M P := fun F Z σ H en m x Q q =>
  h F Z σ H en m x _ fun v F1 H1 e1 M1 s1 m1 r1 ⟨ht, h1⟩ => ⟨tyM_ok m1 r1 ht, h1 F1 Z H1 v [] m1 (x.mono s1) r1 .nil Q fun w F3 H3 e3 M3 s3 m3 r3 p => q w F3 H3 e3 M3 (s1.trans s3) m3 r3 p⟩
theorem m_append {n : Nat} {ds : List PyData} {y : PyData} (hm : M[n]? = some (some (.lst ds))) (hl : ds.length < sizeLine) (p : P (.d .none) (M.set n (some (.lst (ds ++ [y]))))) : OM J rAppend (.r n) [.d y] M P := fun F Z H v vs m xr r1 r2 Q q => by
  obtain ⟨b, eb, rfl⟩ := r1
  cases r2 with
  | cons r0 rt =>
    cases rt
    obtain ⟨a, vs, h0, _, e, rs⟩ := m.lst hm
    rw [eb] at h0
    cases h0
    exact ⟨_, _, _, rfl, rfl, e, by rw [rs.length]; exact hl, q _ F _ (.d .none) _ (Same.refl F) (m.write (o := .lst _) (m := .lst (ds ++ [y])) hm eb ⟨_, rfl, rs.append (.cons r0 .nil)⟩) Rp.non p⟩
theorem m_appendE {n : Nat} {ds : List Ent} {y : Ent} (hm : M[n]? = some (some (.lsE ds))) (hl : ds.length < sizeLine) (p : P (.d .none) (M.set n (some (.lsE (ds ++ [y]))))) : OM J rAppend (.r n) [y] M P := fun F Z H v vs m xr r1 r2 Q q => by
  obtain ⟨b, eb, rfl⟩ := r1
  cases r2 with
  | cons r0 rt =>
    cases rt
    obtain ⟨a, vs, h0, _, e, rs⟩ := m.lsE hm
    rw [eb] at h0
    cases h0
    exact ⟨_, _, _, rfl, rfl, e, by rw [rs.length]; exact hl, q _ F _ (.d .none) _ (Same.refl F) (m.write (o := .lst _) (m := .lsE (ds ++ [y])) hm eb ⟨_, rfl, paired_append rs (.cons r0 .nil)⟩) Rp.non p⟩
/-- an empty list, of data so far, gets something else -/
theorem m_append0 {n : Nat} {y : Ent} (hm : M[n]? = some (some (.lst []))) (p : P (.d .none) (M.set n (some (.lsE [y])))) : OM J rAppend (.r n) [y] M P := fun F Z H v vs m xr r1 r2 Q q => by
  obtain ⟨b, eb, rfl⟩ := r1
  cases r2 with
  | cons r0 rt =>
    cases rt
    obtain ⟨a, vs, h0, _, e, rs⟩ := m.lst hm
    rw [eb] at h0
    cases h0
    cases rs
    exact ⟨_, _, _, rfl, rfl, e, by decide, q _ F _ (.d .none) _ (Same.refl F) (m.write (o := .lst _) (m := .lsE [y]) hm eb ⟨_, rfl, .cons r0 .nil⟩) Rp.non p⟩
theorem m_SS {g : Str → Str → V} {d : PyData} {a b : Str} (hg : ∀ F, Rp J.K F (g a b) d) (p : P (.d d) M) : OM J (fun x xs H Q => ∃ a b, x = .str a ∧ xs = [.str b] ∧ Q (g a b) H) (.d (.str a)) [.d (.str b)] M P := fun F Z H v vs m xr r1 r2 Q q => by
  cases r1
  cases r2 with
  | cons r0 rt =>
    cases rt
    cases r0
    exact ⟨a, b, rfl, rfl, q _ F H (.d d) M (Same.refl F) m (hg F) p⟩
theorem m_startswith {a b : Str} (p : P (.d (.bool (Txt.startswith a b))) M) : OM J (fun x xs H Q => ∃ a b, x = .str a ∧ xs = [.str b] ∧ Q (.bl (Txt.startswith a b)) H) (.d (.str a)) [.d (.str b)] M P := m_SS (g := fun a b => .bl (Txt.startswith a b)) (fun _ => Rp.bl _) p
theorem m_endswith {a b : Str} (p : P (.d (.bool (Txt.endswith a b))) M) : OM J (fun x xs H Q => ∃ a b, x = .str a ∧ xs = [.str b] ∧ Q (.bl (Txt.endswith a b)) H) (.d (.str a)) [.d (.str b)] M P := m_SS (g := fun a b => .bl (Txt.endswith a b)) (fun _ => Rp.bl _) p
theorem m_find {a b : Str} (p : P (.d (.int (Txt.find a b))) M) : OM J (fun x xs H Q => ∃ a b, x = .str a ∧ xs = [.str b] ∧ Q (.int (Txt.find a b)) H) (.d (.str a)) [.d (.str b)] M P := m_SS (g := fun a b => .int (Txt.find a b)) (fun _ => Rp.int _) p
theorem m_strip {a b : Str} (hl : a.length ≤ sizeLine) (p : P (.d (.str (Txt.stripChars a b))) M) : OM J (fun x xs H Q => ∃ a b, x = .str a ∧ xs = [.str b] ∧ a.length ≤ sizeLine ∧ Q (.str (Txt.stripChars a b)) H) (.d (.str a)) [.d (.str b)] M P := fun F Z H v vs m xr r1 r2 Q q => by
  cases r1
  cases r2 with
  | cons r0 rt =>
    cases rt
    cases r0
    exact ⟨a, b, rfl, rfl, hl, q _ F H (.d (.str _)) M (Same.refl F) m (Rp.str _) p⟩
theorem m_split {a b : Str} (hb : (b.length == 0) = false) (hl : a.length + 2 ≤ sizeLine) (p : P (.d (.list ((Txt.split a b).map PyData.str))) M) : OM J (fun x xs H Q => ∃ a b, x = .str a ∧ xs = [.str b] ∧ (b.length == 0) = false ∧ a.length + 2 ≤ sizeLine ∧ rNewStrs (Txt.split a b) H Q) (.d (.str a)) [.d (.str b)] M P := fun F Z H v vs m xr r1 r2 Q q => by
  cases r1
  cases r2 with
  | cons r0 rt =>
    cases rt
    cases r0
    refine ⟨a, b, rfl, rfl, hb, hl, fun l n => ?_⟩
    obtain ⟨s3, m3⟩ := m.newF (o := .lst _) n
    exact q _ _ _ (.d (.list _)) M s3 m3 (Rp.lst upd_same (RpAll.ofStrs _)) p
theorem m_join {a : Str} {y : Ent} {ds : List PyData} {ys : List Str} (hd : LD M y ds) (he : ds = ys.map PyData.str) (hl : (ys.map (·.length)).sum + ys.length * a.length ≤ 16777216) (p : P (.d (.str (Txt.join a ys))) M) : OM J (fun x xs H Q => ∃ a p, ∃ ys : List Str, x = .str a ∧ xs = [.ref p] ∧ (SqL J.K H p (ys.map V.str) ∨ SqT J.K H p (ys.map V.str)) ∧
    (ys.map (·.length)).sum + ys.length * a.length ≤ 16777216 ∧ Q (.str (Txt.join a ys)) H) (.d (.str a)) [y] M P := fun F Z H v vs m xr r1 r2 Q q => by
  subst he
  cases r1
  cases r2 with
  | cons r0 rt =>
    cases rt
    obtain ⟨b, ws, rfl, e, rs⟩ := ld_ok m r0 hd
    have ev := rs.strs
    subst ev
    exact ⟨a, _, ys, rfl, rfl, .inl e, hl, q _ F H (.d (.str _)) M (Same.refl F) m (Rp.str _) p⟩
theorem w_m1 (h : Wx J to Γ M fun x M1 => (∃ s, x = .d (.str s)) ∧ Wx J te Γ M1 fun y M2 => OM J r x [y] M2 P) : Wx J (tM1 r to te) Γ M P := fun F Z σ H en m x Q q =>
  h F Z σ H en m x _ fun v F1 H1 e1 M1 s1 m1 r1 ⟨⟨s, hs⟩, h1⟩ => by
    subst hs
    have r1' := r1
    cases r1
    exact ⟨⟨_, rfl⟩, h1 F1 Z σ H1 (en.mono s1) m1 (x.mono s1) _ fun u F2 H2 es M2 s2 m2 r2 h2 =>
      h2 F2 Z H2 _ [u] m2 (x.mono (s1.trans s2)) (Rp.str s) (.cons r2 .nil) Q fun w F3 H3 e3 M3 s3 m3 r3 p => q w F3 H3 e3 M3 ((s1.trans s2).trans s3) m3 r3 p⟩
end
/-! ## slices -/
section
variable {J : Jx} {Γ : Ga} {M : Ms} {te : TE} {B : Option Int → Ms → Prop}
def WO (J : Jx) (t : TO) (Γ : Ga) (M : Ms) (P : Option Int → Ms → Prop) : Prop := ∀ F Z σ H, EnvOk J.K F σ Γ → Mem J.K F M Z H → XR J F Z → ∀ Q : Option Int → Hp → Prop,
  (∀ o F' H' M', Same F F' → Mem J.K F' M' Z H' → P o M' → Q o H') → t σ H Q
theorem wo_none (p : B none M) : WO J tNoPart Γ M B := fun F Z σ H en m x Q q => q none F H M (Same.refl F) m p
theorem wo_some (h : Wx J te Γ M fun e M1 => ∃ i, e = .d (.int i) ∧ B (some i) M1) : WO J (tPart te) Γ M B := fun F Z σ H en m x Q q =>
  h F Z σ H en m x _ fun v F1 H1 e M1 s1 m1 r1 ⟨i, ei, p⟩ => by
    subst ei
    cases r1
    exact ⟨i, rfl, q _ F1 H1 M1 s1 m1 p⟩
end
section
variable {J : Jx} {Γ : Ga} {M : Ms} {P : Ent → Ms → Prop} {te tx : TE} {tl th : TO} {B : Option Int → Ms → Prop}
def OS (J : Jx) (r : V → Option Int → Option Int → Hp → VK → Prop) (x : Ent) (lo hi : Option Int) (M : Ms) (P : Ent → Ms → Prop) : Prop := ∀ F Z H v, Mem J.K F M Z H → XR J F Z → RE J.K F v x → ∀ Q : VK,
  (∀ v F' H' e M', Same F F' → Mem J.K F' M' Z H' → RE J.K F' v e → P e M' → Q v H') → r v lo hi H Q
theorem w_slice {r : V → Option Int → Option Int → Hp → VK → Prop} (h : Wx J te Γ M fun x M1 => WO J tl Γ M1 fun lo M2 => WO J th Γ M2 fun hi M3 => OS J r x lo hi M3 P) : Wx J (tSl r te tl th) Γ M P := fun F Z σ H en m x Q q =>
  h F Z σ H en m x _ fun v F1 H1 e1 M1 s1 m1 r1 h1 => h1 F1 Z σ H1 (en.mono s1) m1 (x.mono s1) _ fun lo F2 H2 M2 s2 m2 h2 =>
    h2 F2 Z σ H2 (en.mono (s1.trans s2)) m2 (x.mono (s1.trans s2)) _ fun hi F3 H3 M3 s3 m3 h3 => h3 F3 Z H3 v m3 (x.mono ((s1.trans s2).trans s3)) (r1.mono (s2.trans s3)) Q
      fun w F4 H4 e4 M4 s4 m4 r4 p => q w F4 H4 e4 M4 (((s1.trans s2).trans s3).trans s4) m4 r4 p
abbrev rSlU (K : PySem.W.Frag) : V → Option Int → Option Int → Hp → VK → Prop := fun x lo hi H Q => rSlS x lo hi H Q ∨ rSlL K x lo hi H Q
theorem sl_or {X : Cx} {r r' : V → Option Int → Option Int → Hp → VK → Prop} (h : SlR X r) (h' : SlR X r') : SlR X (fun x lo hi H Q => r x lo hi H Q ∨ r' x lo hi H Q) := fun pins s σ H x v vl vu lo hi sl Q I rx i1 i2 i3 q => q.elim (h pins s σ H x v vl vu lo hi sl Q I rx i1 i2 i3) (h' pins s σ H x v vl vu lo hi sl Q I rx i1 i2 i3)
theorem sl_U {X : Cx} : SlR X (rSlU X.K) := sl_or sl_str sl_list
theorem l_str {s : Str} {lo hi : Option Int} (hl : s.length ≤ sizeLine) (p : P (.d (.str (cutS s lo hi))) M) : OS J (rSlU J.K) (.d (.str s)) lo hi M P := fun F Z H v m xr r1 Q q => by
  cases r1
  exact .inl ⟨s, rfl, hl, q _ F H (.d (.str _)) M (Same.refl F) m (Rp.str _) p⟩
def cutD (xs : List PyData) (lo hi : Option Int) : List PyData := (xs.drop (HT.sIx xs.length 0 lo)).take (HT.sIx xs.length xs.length hi - HT.sIx xs.length 0 lo)
theorem cut_rp {K : PySem.W.Frag} {F : Wd} {vs : List V} {ds : List PyData} (r : RpAll K F vs ds) (lo hi : Option Int) : RpAll K F (cutV vs lo hi) (cutD ds lo hi) := by
  unfold cutV cutD
  rw [r.length]
  exact (r.drop _).take _
theorem l_list {x : Ent} {ds : List PyData} {lo hi : Option Int} (hd : LD M x ds) (p : P (.d (.list (cutD ds lo hi))) M) : OS J (rSlU J.K) x lo hi M P := fun F Z H v m xr r1 Q q => by
  obtain ⟨a, vs, rfl, e, rs⟩ := ld_ok m r1 hd
  refine .inr ⟨_, _, rfl, e, fun a n => ?_⟩
  obtain ⟨s3, m3⟩ := m.newF (o := .lst _) n
  exact q _ _ _ (.d (.list _)) M s3 m3 (Rp.lst upd_same ((cut_rp rs lo hi).mono s3)) p
def OSM (J : Jx) (r : V → Option Int → Option Int → Hp → VK → Prop) (x : Ent) (lo hi : Option Int) (M : Ms) (P : Ent → Ms → Prop) : Prop := OS J r x lo hi M P
theorem l_listM {x : Ent} {ds : List PyData} {lo hi : Option Int} (hd : LD M x ds) (p : P (.r M.length) (M ++ [some (.lst (cutD ds lo hi))])) : OSM J (rSlU J.K) x lo hi M P := fun F Z H v m xr r1 Q q => by
  obtain ⟨a, vs, rfl, e, rs⟩ := ld_ok m r1 hd
  refine .inr ⟨_, _, rfl, e, fun a n => ?_⟩
  obtain ⟨s3, m3, r3⟩ := m.newM (o := .lst _) (m := .lst (cutD ds lo hi)) n ⟨_, rfl, cut_rp rs lo hi⟩
  exact q _ _ _ (.r M.length) _ s3 m3 r3 p
end
end Z
set_option Elab.async false
set_option linter.all false
set_option maxRecDepth 100000
set_option maxHeartbeats 4000000
namespace Z
open PySem PySem.Spec L2
/-! ## what is walked -/
/-- J gives the items its, one by one, as long as G holds of what may change -/
structure AW (K : PySem.W.Frag) (F : Wd) (Z : Hp) (I : It) (its : List Ent) (G : Ms → Prop) : Prop where
  goes : ∀ F1 M H i, Same F F1 → Mem K F1 M Z H → G M → i < its.length → I.go i H
  stops : ∀ F1 M H, Same F F1 → Mem K F1 M Z H → G M → I.stop its.length H
  yields : ∀ F1 M H i x H', Same F F1 → Mem K F1 M Z H → G M → i < its.length → I.yld i H x H' → ∃ F2 e, Same F1 F2 ∧ Mem K F2 M Z H' ∧ its[i]? = some e ∧ RE K F2 x e
def WI (J : Jx) (wi : TI) (Γ : Ga) (M : Ms) (P : List Ent → (Ms → Prop) → Ms → Prop) : Prop := ∀ F Z σ H, EnvOk J.K F σ Γ → Mem J.K F M Z H → XR J F Z → ∀ R : It → Hp → Prop,
  (∀ I F' H' M' its G, Same F F' → Mem J.K F' M' Z H' → (∀ Z', (∀ a o, Z a = some o → Z' a = some o) → AW J.K F' Z' I its G) → P its G M' → R I H') → wi σ H R
abbrev GT0 : Ms → Prop := fun _ => True
section
variable {J : Jx} {Γ : Ga} {M : Ms} {P : List Ent → (Ms → Prop) → Ms → Prop} {te : TE} {ta : TA}
/-- an item that stands still -/
theorem aw_at {K : PySem.W.Frag} {F : Wd} {Z : Hp} {I : It} {ds : List PyData} {vs : List V} {S : Hp → Prop} {G : Ms → Prop} (w : Walk I vs.length S (YAt vs)) (hS : ∀ F1 M H, Same F F1 → Mem K F1 M Z H → G M → S H) (r : RpAll K F vs ds) : AW K F Z I (ds.map Ent.d) G where
  goes := fun F1 M H i s m g hi => w.goes i H (by rw [r.length]; rw [List.length_map] at hi; exact hi) (hS F1 M H s m g)
  stops := fun F1 M H s m g => by
    have q := w.stops H (hS F1 M H s m g)
    rw [r.length] at q
    rw [List.length_map]
    exact q
  yields := fun F1 M H i x H' s m g hi y => by
    rw [List.length_map] at hi
    obtain ⟨e1, e2⟩ := w.yields i H x H' (by rw [r.length]; exact hi) (hS F1 M H s m g) y
    subst e1
    refine ⟨F1, .d ds[i], Same.refl F1, m, by rw [List.getElem?_map, List.getElem?_eq_getElem hi]; rfl, ?_⟩
    exact (r.get e2 (List.getElem?_eq_getElem hi)).mono s
theorem wi_list (h : Wx J te Γ M fun x M1 => ∃ ds, x = .d (.list ds) ∧ P (ds.map Ent.d) GT0 M1) : WI J (iList J.K te) Γ M P := fun F Z σ H en m x R q =>
  h F Z σ H en m x _ fun v F1 H1 e M1 s1 m1 r1 ⟨ds, ed, p⟩ => by
    subst ed
    cases r1 with
    | lst ea rs => exact ⟨_, rfl, ⟨_, .inl (.inl (m1.sub _ _ ea))⟩, q _ F1 H1 M1 _ GT0 s1 m1 (fun Z' _ => aw_at walk_list (fun F2 M2 H2 s2 m2 _ => .inl (.inl (m2.sub _ _ (s2.F _ _ ea)))) rs) p⟩
theorem wi_listW (h : Wx J te Γ M fun x M1 => ∃ ds, x = .w ds ∧ P (ds.map Ent.d) GT0 M1) : WI J (iList J.K te) Γ M P := fun F Z σ H en m x R q =>
  h F Z σ H en m x _ fun v F1 H1 e M1 s1 m1 r1 ⟨ds, ed, p⟩ => by
    subst ed
    obtain ⟨a, vs, rfl, ea, rs⟩ := r1
    exact ⟨_, rfl, ⟨_, m1.sub.seq ea⟩, q _ F1 H1 M1 _ GT0 s1 m1 (fun Z' _ => aw_at walk_list (fun F2 M2 H2 s2 m2 _ => m2.sub.seq (s2.F.seq ea)) rs) p⟩
theorem wi_tup (h : Wx J te Γ M fun x M1 => ∃ ds, x = .d (.tuple ds) ∧ P (ds.map Ent.d) GT0 M1) : WI J (iTup J.K te) Γ M P := fun F Z σ H en m x R q =>
  h F Z σ H en m x _ fun v F1 H1 e M1 s1 m1 r1 ⟨ds, ed, p⟩ => by
    subst ed
    cases r1 with
    | tup ea rs => exact ⟨_, rfl, ⟨_, sqT_mono m1.sub ea⟩, q _ F1 H1 M1 _ GT0 s1 m1 (fun Z' _ => aw_at walk_tup (fun F2 M2 H2 s2 m2 _ => sqT_mono m2.sub (sqT_mono s2.F ea)) rs) p⟩
/-- a list that may change, but does not while it is walked -/
theorem wi_listM (h : Wx J te Γ M fun x M1 => ∃ n ds, x = .r n ∧ M1[n]? = some (some (.lst ds)) ∧ P (ds.map Ent.d) (fun M2 => M2[n]? = some (some (.lst ds))) M1) : WI J (iList J.K te) Γ M P := fun F Z σ H en m x R q =>
  h F Z σ H en m x _ fun v F1 H1 e M1 s1 m1 r1 ⟨n, ds, ed, hm, p⟩ => by
    subst ed
    obtain ⟨b, eb, rfl⟩ := r1
    obtain ⟨a, vs, h0, _, ea, rs⟩ := m1.lst hm
    rw [eb] at h0
    cases h0
    have at_ : ∀ F2 M2 H2, Same F1 F2 → Mem J.K F2 M2 Z H2 → M2[n]? = some (some (.lst ds)) → ∃ ws, H2 b = some (.lst ws) ∧ RpAll J.K F2 ws ds := fun F2 M2 H2 s2 m2 g => by
      obtain ⟨c, ws, h0, _, ea, rs⟩ := m2.lst g
      rw [s2.at_ eb] at h0
      cases h0
      exact ⟨ws, ea, rs⟩
    refine ⟨_, rfl, ⟨_, .inl (.inl ea)⟩, q _ F1 H1 M1 _ _ s1 m1 (fun Z' hZ => ?_) p⟩
    have mz : ∀ {F2 M2 H2}, Mem J.K F2 M2 Z' H2 → Mem J.K F2 M2 Z H2 := fun m2 => m2.lessZ hZ
    refine ⟨fun F2 M2 H2 i s2 m2 g hi => ?_, fun F2 M2 H2 s2 m2 g => ?_, fun F2 M2 H2 i x H' s2 m2 g hi y => ?_⟩
    · obtain ⟨ws, ec, qs⟩ := at_ F2 M2 H2 s2 (mz m2) g
      rw [List.length_map] at hi
      exact (walk_list (xs := ws)).goes i H2 (by rw [qs.length]; exact hi) (.inl (.inl ec))
    · obtain ⟨ws, ec, qs⟩ := at_ F2 M2 H2 s2 (mz m2) g
      have z := (walk_list (K := J.K) (a := b) (xs := ws)).stops H2 (.inl (.inl ec))
      rw [qs.length] at z
      rw [List.length_map]
      exact z
    · obtain ⟨ws, ec, qs⟩ := at_ F2 M2 H2 s2 (mz m2) g
      rw [List.length_map] at hi
      obtain ⟨e1, e2⟩ := (walk_list (K := J.K) (a := b) (xs := ws)).yields i H2 x H' (by rw [qs.length]; exact hi) (.inl (.inl ec)) y
      subst e1
      exact ⟨F2, .d ds[i], Same.refl F2, m2, by rw [List.getElem?_map, List.getElem?_eq_getElem hi]; rfl, qs.get e2 (List.getElem?_eq_getElem hi)⟩
theorem wi_lsE (h : Wx J te Γ M fun x M1 => ∃ n es, x = .r n ∧ M1[n]? = some (some (.lsE es)) ∧ P es (fun M2 => M2[n]? = some (some (.lsE es))) M1) : WI J (iList J.K te) Γ M P := fun F Z σ H en m x R q =>
  h F Z σ H en m x _ fun v F1 H1 e M1 s1 m1 r1 ⟨n, es, ed, hm, p⟩ => by
    subst ed
    obtain ⟨b, eb, rfl⟩ := r1
    obtain ⟨a, vs, h0, _, ea, rs⟩ := m1.lsE hm
    rw [eb] at h0
    cases h0
    have at_ : ∀ F2 M2 H2, Same F1 F2 → Mem J.K F2 M2 Z H2 → M2[n]? = some (some (.lsE es)) → ∃ ws, H2 b = some (.lst ws) ∧ REs J.K F2 ws es := fun F2 M2 H2 s2 m2 g => by
      obtain ⟨c, ws, h0, _, ea, rs⟩ := m2.lsE g
      rw [s2.at_ eb] at h0
      cases h0
      exact ⟨ws, ea, rs⟩
    refine ⟨_, rfl, ⟨_, .inl (.inl ea)⟩, q _ F1 H1 M1 _ _ s1 m1 (fun Z' hZ => ?_) p⟩
    have mz : ∀ {F2 M2 H2}, Mem J.K F2 M2 Z' H2 → Mem J.K F2 M2 Z H2 := fun m2 => m2.lessZ hZ
    refine ⟨fun F2 M2 H2 i s2 m2 g hi => ?_, fun F2 M2 H2 s2 m2 g => ?_, fun F2 M2 H2 i x H' s2 m2 g hi y => ?_⟩
    · obtain ⟨ws, ec, qs⟩ := at_ F2 M2 H2 s2 (mz m2) g
      exact (walk_list (xs := ws)).goes i H2 (by rw [qs.length]; exact hi) (.inl (.inl ec))
    · obtain ⟨ws, ec, qs⟩ := at_ F2 M2 H2 s2 (mz m2) g
      have z := (walk_list (K := J.K) (a := b) (xs := ws)).stops H2 (.inl (.inl ec))
      rw [qs.length] at z
      exact z
    · obtain ⟨ws, ec, qs⟩ := at_ F2 M2 H2 s2 (mz m2) g
      obtain ⟨e1, e2⟩ := (walk_list (K := J.K) (a := b) (xs := ws)).yields i H2 x H' (by rw [qs.length]; exact hi) (.inl (.inl ec)) y
      subst e1
      have e3 : es[i]? = some es[i] := List.getElem?_eq_getElem hi
      obtain ⟨x', e4, r4⟩ := paired_get qs e3
      rw [e2] at e4
      cases e4
      exact ⟨F2, es[i], Same.refl F2, m2, e3, r4⟩
theorem aw_fn {K : PySem.W.Frag} {F : Wd} {Z : Hp} {I : It} {n : Nat} {f : Nat → V} {g : Nat → PyData} (w : Walk I n (fun _ => True) (YFn f)) (hg : ∀ i F, Rp K F (f i) (g i)) : AW K F Z I ((List.range n).map fun i => Ent.d (g i)) GT0 where
  goes := fun F1 M H i s m _ hi => w.goes i H (by simpa using hi) trivial
  stops := fun F1 M H s m _ => by
    have q := w.stops H trivial
    simpa using q
  yields := fun F1 M H i x H' s m _ hi y => by
    have hi' : i < n := by simpa using hi
    obtain ⟨e1, e2⟩ := w.yields i H x H' hi' trivial y
    subst e1
    subst e2
    exact ⟨F1, .d (g i), Same.refl F1, m, by rw [List.getElem?_map, List.getElem?_range hi']; rfl, hg i F1⟩
/-- the ints lo, lo + 1, .. -/
def rgE (lo : Int) (n : Nat) : List Ent := (List.range n).map fun i => Ent.d (.int (lo + (i : Nat)))
theorem rgE_len (lo : Int) (n : Nat) : (rgE lo n).length = n := by simp [rgE]
theorem rgE_get {lo : Int} {n i : Nat} {e : Ent} (h : (rgE lo n)[i]? = some e) : i < n ∧ e = .d (.int (lo + (i : Nat))) := by
  have hi : i < n := by
    have := (List.getElem?_eq_some_iff.mp h).1
    rwa [rgE_len] at this
  refine ⟨hi, ?_⟩
  unfold rgE at h
  rw [List.getElem?_map, List.getElem?_range hi] at h
  exact (Option.some.inj h).symm
theorem wi_range1 (h : WA J ta Γ M fun es M1 => ∃ j, es = [.d (.int j)] ∧ -(2 ^ 62) ≤ j ∧ j < 2 ^ 62 ∧ P (rgE 0 j.toNat) GT0 M1) : WI J (iRng1 ta) Γ M P := fun F Z σ H en m x R q =>
  h F Z σ H en m x _ fun vs F1 H1 es M1 s1 m1 r1 ⟨j, ed, h1, h2, p⟩ => by
    subst ed
    cases r1 with
    | cons r0 rt =>
      cases rt
      cases r0
      exact ⟨j, rfl, h1, h2, q _ F1 H1 M1 _ GT0 s1 m1 (fun Z' _ => aw_fn walk_range fun i F => Rp.int _) p⟩
theorem wi_range2 (h : WA J ta Γ M fun es M1 => ∃ i j, es = [.d (.int i), .d (.int j)] ∧ (-(2 ^ 62) ≤ i ∧ i < 2 ^ 62 ∧ -(2 ^ 62) ≤ j ∧ j < 2 ^ 62) ∧ P (rgE i (j - i).toNat) GT0 M1) : WI J (iRng2 ta) Γ M P := fun F Z σ H en m x R q =>
  h F Z σ H en m x _ fun vs F1 H1 es M1 s1 m1 r1 ⟨i, j, ed, h1, p⟩ => by
    subst ed
    cases r1 with
    | cons r0 rt =>
      cases rt with
      | cons r2 rt =>
        cases rt
        cases r0
        cases r2
        exact ⟨i, j, rfl, h1, q _ F1 H1 M1 _ GT0 s1 m1 (fun Z' _ => aw_fn walk_range fun i F => Rp.int _) p⟩
/-- the signs of a text -/
def sgE (s : Str) : List Ent := s.cps.toList.map fun c => Ent.d (.str ⟨#[c]⟩)
theorem sgE_len (s : Str) : (sgE s).length = s.length := by simp [sgE, Str.length]
theorem sgE_get {s : Str} {i : Nat} {e : Ent} (h : (sgE s)[i]? = some e) : ∃ c, s.cps.toList[i]? = some c ∧ e = .d (.str ⟨#[c]⟩) := by
  unfold sgE at h
  rw [List.getElem?_map] at h
  cases q : s.cps.toList[i]? with
  | none =>
    rw [q] at h
    cases h
  | some c =>
    rw [q] at h
    exact ⟨c, rfl, (Option.some.inj h).symm⟩
theorem wi_str (h : Wx J te Γ M fun x M1 => ∃ s, x = .d (.str s) ∧ P (sgE s) GT0 M1) : WI J (iStr te) Γ M P := fun F Z σ H en m x R q =>
  h F Z σ H en m x _ fun v F1 H1 e M1 s1 m1 r1 ⟨s, ed, p⟩ => by
    subst ed
    cases r1
    refine ⟨s, rfl, q _ F1 H1 M1 _ GT0 s1 m1 (fun Z' _ => ⟨fun F2 M2 H2 i s2 m2 _ hi => ?_, fun F2 M2 H2 s2 m2 _ => ?_, fun F2 M2 H2 i x H' s2 m2 _ hi y => ?_⟩) p⟩
    · rw [sgE_len] at hi
      exact walk_str.goes i H2 hi trivial
    · rw [sgE_len]
      exact walk_str.stops H2 trivial
    · rw [sgE_len] at hi
      obtain ⟨e1, c, e2, e3⟩ := walk_str.yields i H2 x H' hi trivial y
      subst e1
      subst e3
      refine ⟨F2, .d (.str ⟨#[c]⟩), Same.refl F2, m2, ?_, Rp.str _⟩
      unfold sgE
      rw [List.getElem?_map, Array.getElem?_toList, e2]
      rfl
end
/-! ## loops -/
section
variable {J : Jx} {Γ : Ga} {M : Ms} {D : Nd} {wi : TI} {g : TG} {tb : TS} {tt : TT} {te : TE} {P : Ent → Ms → Prop}
theorem s_for (h : WI J wi Γ M fun its G M1 => ∃ Iv : Nat → Ga → Ms → Prop, Iv 0 Γ M1 ∧ (∀ i Γ' M', i ≤ its.length → Iv i Γ' M' → G M') ∧
    (∀ i e Γ' M', its[i]? = some e → Iv i Γ' M' → GT J g e Γ' M' fun Γ2 M2 => Sx J tb { D with nx := Iv (i + 1), ct := Iv (i + 1), bk := D.nx } Γ2 M2) ∧ (∀ Γ' M', Iv its.length Γ' M' → D.nx Γ' M')) : Sx J (tFor wi g tb) D Γ M := fun F Z σ H C en m x d =>
  h F Z σ H en m x _ fun I F1 H1 M1 its G s1 m1 aw ⟨Iv, h0, hG, hs, hd⟩ => by
    have aw1 := aw Z fun _ _ z => z
    refine ⟨fun i n σ' H' => n = its.length - i ∧ i ≤ its.length ∧ ∃ F' Γ' M', Same F1 F' ∧ EnvOk J.K F' σ' Γ' ∧ Mem J.K F' M' Z H' ∧ Iv i Γ' M', ⟨its.length, by simp, Nat.zero_le _, F1, Γ, M1, Same.refl F1, en.mono s1, m1, h0⟩, ?_⟩
    rintro i n σ' H' ⟨rfl, hi, F', Γ', M', s', e', m', iv⟩
    have g' := hG i Γ' M' hi iv
    by_cases hlt : i < its.length
    · refine .inr ⟨aw1.goes F' M' H' i s' m' g' hlt, fun σ2 H2 => ∃ F' Γ' M', Same F1 F' ∧ EnvOk J.K F' σ2 Γ' ∧ Mem J.K F' M' Z H2 ∧ Iv (i + 1) Γ' M', fun σ2 H2 q => ⟨its.length - (i + 1), by omega, rfl, hlt, q⟩, fun v H2 y => ?_⟩
      obtain ⟨F2, e, s2, m2, ei, r2⟩ := aw1.yields F' M' H' i v H2 s' m' g' hlt y
      refine hs i e Γ' M' ei iv F2 Z σ' H2 v (e'.mono s2) m2 (x.mono ((s1.trans s').trans s2)) r2 _ fun F3 H3 σ3 Γ3 M3 s3 m3 e3 k => ?_
      have s03 := ((s1.trans s').trans s2).trans s3
      have s13 := (s'.trans s2).trans s3
      exact k F3 Z σ3 H3 _ e3 m3 (x.mono s03) ⟨fun F4 M4 H4 σ4 Γ4 s4 m4 e4 q => ⟨F4, Γ4, M4, s13.trans s4, e4, m4, q⟩, (d.mono s03).rt, (d.mono s03).nx, fun F4 M4 H4 σ4 Γ4 s4 m4 e4 q => ⟨F4, Γ4, M4, s13.trans s4, e4, m4, q⟩⟩
    · have e : i = its.length := by omega
      subst e
      exact .inl ⟨aw1.stops F' M' H' s' m' g', (d.mono (s1.trans s')).nx F' M' H' σ' Γ' (Same.refl F') m' e' (hd Γ' M' iv)⟩
/-- the same, the invariant said of what stands at the loop's start -/
theorem s_for0 (h : WI J wi Γ M fun its G M1 => ∃ Jv : List Ent → Ga → Ms → Nat → Ga → Ms → Prop, Jv its Γ M1 0 Γ M1 ∧ (∀ i Γ' M', i ≤ its.length → Jv its Γ M1 i Γ' M' → G M') ∧
    (∀ i e Γ' M', its[i]? = some e → Jv its Γ M1 i Γ' M' → GT J g e Γ' M' fun Γ2 M2 => Sx J tb { D with nx := Jv its Γ M1 (i + 1), ct := Jv its Γ M1 (i + 1), bk := D.nx } Γ2 M2) ∧ (∀ Γ' M', Jv its Γ M1 its.length Γ' M' → D.nx Γ' M')) : Sx J (tFor wi g tb) D Γ M :=
  s_for (fun F Z σ H en m x R q => h F Z σ H en m x R fun I F' H' M' its G s m' aw ⟨Jv, p⟩ => q I F' H' M' its G s m' aw ⟨Jv its Γ M', p⟩)
theorem s_while {c : TT} (Iv : Nat → Ga → Ms → Prop) (n0 : Nat) (h0 : Iv n0 Γ M) (hs : ∀ n Γ' M', Iv n Γ' M' → WT J c Γ' M' fun b M1 => (b = true → Sx J tb { D with nx := fun Γ2 M2 => ∃ n2, n2 < n ∧ Iv n2 Γ2 M2, ct := fun Γ2 M2 => ∃ n2, n2 < n ∧ Iv n2 Γ2 M2, bk := D.nx } Γ' M1) ∧ (b = false → D.nx Γ' M1)) :
    Sx J (tWhile c tb) D Γ M := fun F Z σ H C en m x d => by
  refine ⟨fun n σ' H' => ∃ F' Γ' M', Same F F' ∧ EnvOk J.K F' σ' Γ' ∧ Mem J.K F' M' Z H' ∧ Iv n Γ' M', ⟨n0, F, Γ, M, Same.refl F, en, m, h0⟩, ?_⟩
  rintro n σ' H' ⟨F', Γ', M', s', e', m', iv⟩
  refine hs n Γ' M' iv F' Z σ' H' e' m' (x.mono s') _ fun b F1 H1 M1 s1 m1 ⟨h1, h2⟩ => ?_
  cases b with
  | true =>
    rw [if_pos rfl]
    refine ⟨fun σ2 H2 => ∃ n2, n2 < n ∧ ∃ F' Γ' M', Same F F' ∧ EnvOk J.K F' σ2 Γ' ∧ Mem J.K F' M' Z H2 ∧ Iv n2 Γ' M', fun σ2 H2 ⟨n2, l, q⟩ => ⟨n2, l, q⟩, ?_⟩
    have s01 := s'.trans s1
    exact h1 rfl F1 Z σ' H1 _ (e'.mono s1) m1 (x.mono s01) ⟨fun F4 M4 H4 σ4 Γ4 s4 m4 e4 ⟨n2, l, q⟩ => ⟨n2, l, F4, Γ4, M4, s01.trans s4, e4, m4, q⟩, (d.mono s01).rt, (d.mono s01).nx, fun F4 M4 H4 σ4 Γ4 s4 m4 e4 ⟨n2, l, q⟩ => ⟨n2, l, F4, Γ4, M4, s01.trans s4, e4, m4, q⟩⟩
  | false =>
    rw [if_neg Bool.false_ne_true]
    exact d.nx F1 M1 H1 σ' Γ' (s'.trans s1) m1 (e'.mono s1) (h2 rfl)
end
/-! ## comprehensions -/
def wipeG (Γ : Ga) : List Nat → Ga
  | [] => Γ
  | i :: r => (wipeG Γ r).set i none
theorem EnvOk.wipe {K : PySem.W.Frag} {F : Wd} {σ : L2.St} {Γ : Ga} (h : EnvOk K F σ Γ) : ∀ vs : List Nat, EnvOk K F (wipe σ vs) (wipeG Γ vs)
  | [] => h
  | v :: vs => (EnvOk.wipe h vs).wipe1 v none
theorem wipe_set_any {j : Nat} {x : Option V} (y : Option V) : ∀ (vs : List Nat) (σ : L2.St), (wipe (σ.set j x) vs).set j y = (wipe σ vs).set j y
  | [], σ => by show (σ.set j x).set j y = σ.set j y; rw [List.set_set]
  | v :: vs, σ => by
    show ((wipe (σ.set j x) vs).set v none).set j y = ((wipe σ vs).set v none).set j y
    by_cases h : v = j
    · subst h
      rw [List.set_set, List.set_set, wipe_set_any y vs σ]
    · rw [List.set_comm _ _ h, List.set_comm _ _ h, wipe_set_any y vs σ]
theorem wipe_set_mem {j : Nat} {x : Option V} : ∀ {vs : List Nat} (σ : L2.St), j ∈ vs → wipe (σ.set j x) vs = wipe σ vs
  | v :: vs, σ, h => by
    show (wipe (σ.set j x) vs).set v none = (wipe σ vs).set v none
    by_cases e : v = j
    · subst e
      exact wipe_set_any none vs σ
    · rw [wipe_set_mem σ ((List.mem_cons.mp h).resolve_left fun q => e q.symm)]
theorem wipe_wipe (σ : L2.St) : ∀ vs ws : List Nat, (∀ i ∈ ws, i ∈ vs) → wipe (wipe σ ws) vs = wipe σ vs
  | vs, [], _ => rfl
  | vs, w :: ws, h => by
    show wipe ((wipe σ ws).set w none) vs = wipe σ vs
    rw [wipe_set_mem _ (h w (List.mem_cons_self ..)), wipe_wipe σ vs ws fun i hi => h i (List.mem_cons_of_mem _ hi)]
/-- the target stores names of vs alone -/
def WpOk (g : TG) (vs : List Nat) : Prop := ∀ v σ H (Q : L2.St → Hp → Prop), g v σ H Q → g v σ H fun σ2 H2 => wipe σ2 vs = wipe σ vs ∧ Q σ2 H2
def WpsOk (g : TGs) (vs : List Nat) : Prop := ∀ v σ H (Q : L2.St → Hp → Prop), g v σ H Q → g v σ H fun σ2 H2 => wipe σ2 vs = wipe σ vs ∧ Q σ2 H2
theorem wp_name {j : Nat} {vs : List Nat} (h : j ∈ vs) : WpOk (gName j) vs := fun v σ H Q q => ⟨wipe_set_mem σ h, q⟩
theorem wps_nil {vs : List Nat} : WpsOk gNil vs := fun v σ H Q q => ⟨q.1, rfl, q.2⟩
theorem wps_cons {j : Nat} {u : TGs} {vs : List Nat} (h : j ∈ vs) (hu : WpsOk u vs) : WpsOk (gCons (gName j) u) vs := fun v σ H Q ⟨x, r, e, q⟩ => by
  refine ⟨x, r, e, ?_⟩
  have q2 := hu r (σ.set j (some x)) H Q q
  show u r (σ.set j (some x)) H _
  rw [wipe_set_mem σ h] at q2
  exact q2
theorem wp_tup {K : PySem.W.Frag} {n : Nat} {u : TGs} {vs : List Nat} (hu : WpsOk u vs) : WpOk (gTup K n u) vs := fun v σ H Q ⟨a, xs, e1, e2, e3, q⟩ => ⟨a, xs, e1, e2, e3, hu xs σ H Q q⟩
theorem XR.moreZ {J : Jx} {F : Wd} {Z Z' : Hp} (x : XR J F Z) (s : ∀ a o, Z a = some o → Z' a = some o) : XR J F Z' := ⟨fun F' H' M' σ Γ c od xs s' m e q o => x.run F' H' M' σ Γ c od xs s' (m.lessZ s) e q o, x.g⟩
section
variable {J : Jx} {Γ : Ga} {M : Ms} {wi : TI} {g : TG} {tt : TT} {te : TE} {P : Ent → Ms → Prop} {vs : List Nat}
theorem w_lc (hw : WpOk g vs) (h : WI J wi Γ M fun its G M1 => ∃ Iv : Nat → List PyData → Ms → Prop, its.length ≤ sizeLine ∧ Iv 0 [] M1 ∧ (∀ i ds M', i ≤ its.length → Iv i ds M' → G M') ∧
    (∀ i e ds M', its[i]? = some e → Iv i ds M' → GT J g e (wipeG Γ vs) M' fun Γ2 M2 => WT J tt Γ2 M2 fun b M3 => (b = true → Wx J te Γ2 M3 fun r M4 => ∃ d, r = .d d ∧ Iv (i + 1) (ds ++ [d]) M4) ∧ (b = false → Iv (i + 1) ds M3)) ∧
    (∀ ds M', ds.length ≤ its.length → Iv its.length ds M' → P (.d (.list ds)) M')) : Wx J (tLc wi g tt te vs) Γ M P := fun F Z σ H en m x Q q =>
  h F Z σ H en m x _ fun I F1 H1 M1 its G s1 m1 aw ⟨Iv, hz, h0, hG, hs, hd⟩ => fun Dl hD => by
    have nZ := (m1.free hD).1
    have x1 := x.mono s1
    have up : ∀ (o : HO) a u, Z a = some u → upd Z Dl o a = some u := fun o a u e => by
      rw [upd_ne (ne_of_none e nZ)]
      exact e
    refine ⟨fun i n H' => n = its.length - i ∧ i ≤ its.length ∧ ∃ F' ds ws M', Same F1 F' ∧ RpAll J.K F' ws ds ∧ Mem J.K F' M' (upd Z Dl (.lst ws)) H' ∧ ds.length ≤ i ∧ Iv i ds M', ⟨its.length, by simp, Nat.zero_le _, F1, [], [], M1, Same.refl F1, .nil, m1.newZ hD, Nat.le_refl _, h0⟩, ?_⟩
    rintro i n H' ⟨rfl, hi, F', ds, ws, M', s', rs, m', hl, iv⟩
    have g' := hG i ds M' hi iv
    have aw1 := aw (upd Z Dl (.lst ws)) (up _)
    by_cases hlt : i < its.length
    · refine .inr ⟨aw1.goes F' M' H' i s' m' g' hlt, fun H2 => ∃ F' ds ws M', Same F1 F' ∧ RpAll J.K F' ws ds ∧ Mem J.K F' M' (upd Z Dl (.lst ws)) H2 ∧ ds.length ≤ i + 1 ∧ Iv (i + 1) ds M', fun H2 q => ⟨its.length - (i + 1), by omega, rfl, hlt, q⟩, fun v H2 y => ?_⟩
      obtain ⟨F2, e, s2, m2, ei, r2⟩ := aw1.yields F' M' H' i v H2 s' m' g' hlt y
      have xz : XR J F2 (upd Z Dl (.lst ws)) := (x1.mono (s'.trans s2)).moreZ (up _)
      have eq1 : wipe (wipe σ vs) vs = wipe σ vs := wipe_wipe σ vs vs fun _ z => z
      have enw : EnvOk J.K F2 (wipe σ vs) (wipeG Γ vs) := (en.mono ((s1.trans s').trans s2)).wipe vs
      have main := hw v (wipe σ vs) H2 _ (hs i e ds M' ei iv F2 (upd Z Dl (.lst ws)) (wipe σ vs) H2 v enw m2 xz r2 (fun σ2 H2 => tt σ2 H2 fun b H3 => if b = true then te σ2 H3 fun y H4 => ∃ acc, H4 Dl = some (.lst acc) ∧ acc.length < sizeLine ∧
          (fun H2 => ∃ F' ds ws M', Same F1 F' ∧ RpAll J.K F' ws ds ∧ Mem J.K F' M' (upd Z Dl (.lst ws)) H2 ∧ ds.length ≤ i + 1 ∧ Iv (i + 1) ds M') (upd H4 Dl (.lst (acc ++ [y]))) else
          (fun H2 => ∃ F' ds ws M', Same F1 F' ∧ RpAll J.K F' ws ds ∧ Mem J.K F' M' (upd Z Dl (.lst ws)) H2 ∧ ds.length ≤ i + 1 ∧ Iv (i + 1) ds M') H3) fun F3 H3 σ3 Γ3 M3 s3 m3 e3 k => ?_)
      · rw [eq1] at main
        exact main
      · have x3 := xz.mono s3
        refine k F3 _ σ3 H3 e3 m3 x3 _ fun b F4 H4 M4 s4 m4 ⟨kt, kf⟩ => ?_
        have s14 := ((s'.trans s2).trans s3).trans s4
        cases b with
        | true =>
          show te σ3 H4 _
          refine kt rfl F4 _ σ3 H4 (e3.mono s4) m4 (x3.mono s4) _ fun v F5 H5 e5 M5 s5 m5 r5 ⟨d, ed, iv'⟩ => ?_
          subst ed
          have hD5 := (m5.out Dl _ upd_same).1
          refine ⟨ws, hD5, by rw [rs.length]; omega, F5, ds ++ [d], ws ++ [v], M5, s14.trans s5, (rs.mono (((s2.trans s3).trans s4).trans s5)).append (.cons r5 .nil), ?_, by rw [List.length_append, List.length_singleton]; omega, iv'⟩
          have m6 := m5.writeZ (o := .lst (ws ++ [v])) (upd_same (H := Z) (a := Dl) (o := .lst ws))
          rw [upd_upd] at m6
          exact m6
        | false =>
          exact ⟨F4, ds, ws, M4, s14, rs.mono ((s2.trans s3).trans s4), m4, by omega, kf rfl⟩
    · have e : i = its.length := by omega
      subst e
      refine .inl ⟨aw1.stops F' M' H' s' m' g', ?_⟩
      obtain ⟨s2, m2⟩ := m'.giveZ nZ
      exact q _ _ H' (.d (.list ds)) M' ((s1.trans s').trans s2) m2 (Rp.lst upd_same (rs.mono s2)) (hd ds M' hl iv)
theorem w_lcM (hw : WpOk g vs) (h : WI J wi Γ M fun its G M1 => ∃ Iv : Nat → List PyData → Ms → Prop, its.length ≤ sizeLine ∧ Iv 0 [] M1 ∧ (∀ i ds M', i ≤ its.length → Iv i ds M' → G M') ∧
    (∀ i e ds M', its[i]? = some e → Iv i ds M' → GT J g e (wipeG Γ vs) M' fun Γ2 M2 => WT J tt Γ2 M2 fun b M3 => (b = true → Wx J te Γ2 M3 fun r M4 => ∃ d, r = .d d ∧ Iv (i + 1) (ds ++ [d]) M4) ∧ (b = false → Iv (i + 1) ds M3)) ∧
    (∀ ds M', ds.length ≤ its.length → Iv its.length ds M' → P (.r M'.length) (M' ++ [some (.lst ds)]))) : Wx J (tLc wi g tt te vs) Γ M P := fun F Z σ H en m x Q q =>
  h F Z σ H en m x _ fun I F1 H1 M1 its G s1 m1 aw ⟨Iv, hz, h0, hG, hs, hd⟩ => fun Dl hD => by
    have nZ := (m1.free hD).1
    have x1 := x.mono s1
    have up : ∀ (o : HO) a u, Z a = some u → upd Z Dl o a = some u := fun o a u e => by
      rw [upd_ne (ne_of_none e nZ)]
      exact e
    refine ⟨fun i n H' => n = its.length - i ∧ i ≤ its.length ∧ ∃ F' ds ws M', Same F1 F' ∧ RpAll J.K F' ws ds ∧ Mem J.K F' M' (upd Z Dl (.lst ws)) H' ∧ ds.length ≤ i ∧ Iv i ds M', ⟨its.length, by simp, Nat.zero_le _, F1, [], [], M1, Same.refl F1, .nil, m1.newZ hD, Nat.le_refl _, h0⟩, ?_⟩
    rintro i n H' ⟨rfl, hi, F', ds, ws, M', s', rs, m', hl, iv⟩
    have g' := hG i ds M' hi iv
    have aw1 := aw (upd Z Dl (.lst ws)) (up _)
    by_cases hlt : i < its.length
    · refine .inr ⟨aw1.goes F' M' H' i s' m' g' hlt, fun H2 => ∃ F' ds ws M', Same F1 F' ∧ RpAll J.K F' ws ds ∧ Mem J.K F' M' (upd Z Dl (.lst ws)) H2 ∧ ds.length ≤ i + 1 ∧ Iv (i + 1) ds M', fun H2 q => ⟨its.length - (i + 1), by omega, rfl, hlt, q⟩, fun v H2 y => ?_⟩
      obtain ⟨F2, e, s2, m2, ei, r2⟩ := aw1.yields F' M' H' i v H2 s' m' g' hlt y
      have xz : XR J F2 (upd Z Dl (.lst ws)) := (x1.mono (s'.trans s2)).moreZ (up _)
      have eq1 : wipe (wipe σ vs) vs = wipe σ vs := wipe_wipe σ vs vs fun _ z => z
      have enw : EnvOk J.K F2 (wipe σ vs) (wipeG Γ vs) := (en.mono ((s1.trans s').trans s2)).wipe vs
      have main := hw v (wipe σ vs) H2 _ (hs i e ds M' ei iv F2 (upd Z Dl (.lst ws)) (wipe σ vs) H2 v enw m2 xz r2 (fun σ2 H2 => tt σ2 H2 fun b H3 => if b = true then te σ2 H3 fun y H4 => ∃ acc, H4 Dl = some (.lst acc) ∧ acc.length < sizeLine ∧
          (fun H2 => ∃ F' ds ws M', Same F1 F' ∧ RpAll J.K F' ws ds ∧ Mem J.K F' M' (upd Z Dl (.lst ws)) H2 ∧ ds.length ≤ i + 1 ∧ Iv (i + 1) ds M') (upd H4 Dl (.lst (acc ++ [y]))) else
          (fun H2 => ∃ F' ds ws M', Same F1 F' ∧ RpAll J.K F' ws ds ∧ Mem J.K F' M' (upd Z Dl (.lst ws)) H2 ∧ ds.length ≤ i + 1 ∧ Iv (i + 1) ds M') H3) fun F3 H3 σ3 Γ3 M3 s3 m3 e3 k => ?_)
      · rw [eq1] at main
        exact main
      · have x3 := xz.mono s3
        refine k F3 _ σ3 H3 e3 m3 x3 _ fun b F4 H4 M4 s4 m4 ⟨kt, kf⟩ => ?_
        have s14 := ((s'.trans s2).trans s3).trans s4
        cases b with
        | true =>
          show te σ3 H4 _
          refine kt rfl F4 _ σ3 H4 (e3.mono s4) m4 (x3.mono s4) _ fun v F5 H5 e5 M5 s5 m5 r5 ⟨d, ed, iv'⟩ => ?_
          subst ed
          have hD5 := (m5.out Dl _ upd_same).1
          refine ⟨ws, hD5, by rw [rs.length]; omega, F5, ds ++ [d], ws ++ [v], M5, s14.trans s5, (rs.mono (((s2.trans s3).trans s4).trans s5)).append (.cons r5 .nil), ?_, by rw [List.length_append, List.length_singleton]; omega, iv'⟩
          have m6 := m5.writeZ (o := .lst (ws ++ [v])) (upd_same (H := Z) (a := Dl) (o := .lst ws))
          rw [upd_upd] at m6
          exact m6
        | false =>
          exact ⟨F4, ds, ws, M4, s14, rs.mono ((s2.trans s3).trans s4), m4, by omega, kf rfl⟩
    · have e : i = its.length := by omega
      subst e
      refine .inl ⟨aw1.stops F' M' H' s' m' g', ?_⟩
      obtain ⟨s2, m2, r2⟩ := m'.giveM (m := .lst ds) nZ ⟨_, rfl, rs⟩
      exact q _ _ H' (.r M'.length) _ ((s1.trans s').trans s2) m2 r2 (hd ds M' hl iv)
theorem wt_yes {B : Bool → Ms → Prop} (p : B true M) : WT J tYes Γ M B := fun F Z σ H en m x Q q => q true F H M (Same.refl F) m p
end
/-! ## stores into a list that may change -/
section
variable {J : Jx} {Γ : Ga} {M : Ms} {P : Ga → Ms → Prop} {to ti : TE} {e : Ent}
theorem rpAll_set {K : PySem.W.Frag} {F : Wd} {v : V} {d : PyData} : ∀ {vs : List V} {ds : List PyData} (j : Nat), RpAll K F vs ds → Rp K F v d → RpAll K F (vs.set j v) (ds.set j d)
  | _, _, _, .nil, _ => .nil
  | _, _, 0, .cons _ r, q => .cons q r
  | _, _, j + 1, .cons h r, q => .cons h (rpAll_set j r q)
theorem paired_setE {K : PySem.W.Frag} {F : Wd} {vs : List V} {es : List Ent} {v : V} {e : Ent} (r : REs K F vs es) (q : RE K F v e) (j : Nat) : REs K F (vs.set j v) (es.set j e) := paired_set (R := RE K F) q j r
theorem g_sub (h : Wx J to Γ M fun o M1 => Wx J ti Γ M1 fun i M2 => ∃ n k j d, o = .r n ∧ i = .d (.int k) ∧ e = .d d ∧ ∃ ds, M2[n]? = some (some (.lst ds)) ∧ ixN ds.length k = some j ∧ P Γ (M2.set n (some (.lst (ds.set j d))))) : GT J (gSub to ti rSetL) e Γ M P := fun F Z σ H v en m x r Q q =>
  h F Z σ H en m x _ fun o F1 H1 eo M1 s1 m1 r1 h1 => h1 F1 Z σ H1 (en.mono s1) m1 (x.mono s1) _ fun i F2 H2 ei M2 s2 m2 r2 ⟨n, k, j, d, e1, e2, e3, ds, hm, hj, p⟩ => by
    subst e1
    subst e2
    subst e3
    obtain ⟨b, eb, rfl⟩ := r1
    cases r2
    obtain ⟨a, vs, h0, _, ea, rs⟩ := m2.lst hm
    rw [s2.at_ eb] at h0
    cases h0
    refine ⟨b, vs, k, j, rfl, rfl, ea, by rw [rs.length]; exact hj, ?_⟩
    exact q F2 _ σ Γ _ (s1.trans s2) (m2.write (o := .lst (vs.set j v)) (m := .lst (ds.set j d)) hm (s2.at_ eb) ⟨_, rfl, rpAll_set j rs (Rp.mono (s1.trans s2) r)⟩) (en.mono (s1.trans s2)) p
theorem g_subE (h : Wx J to Γ M fun o M1 => Wx J ti Γ M1 fun i M2 => ∃ n k j, o = .r n ∧ i = .d (.int k) ∧ ∃ es, M2[n]? = some (some (.lsE es)) ∧ ixN es.length k = some j ∧ P Γ (M2.set n (some (.lsE (es.set j e))))) : GT J (gSub to ti rSetL) e Γ M P := fun F Z σ H v en m x r Q q =>
  h F Z σ H en m x _ fun o F1 H1 eo M1 s1 m1 r1 h1 => h1 F1 Z σ H1 (en.mono s1) m1 (x.mono s1) _ fun i F2 H2 ei M2 s2 m2 r2 ⟨n, k, j, e1, e2, es, hm, hj, p⟩ => by
    subst e1
    subst e2
    obtain ⟨b, eb, rfl⟩ := r1
    cases r2
    obtain ⟨a, vs, h0, _, ea, rs⟩ := m2.lsE hm
    rw [s2.at_ eb] at h0
    cases h0
    refine ⟨b, vs, k, j, rfl, rfl, ea, by rw [rs.length]; exact hj, ?_⟩
    exact q F2 _ σ Γ _ (s1.trans s2) (m2.write (o := .lst (vs.set j v)) (m := .lsE (es.set j e)) hm (s2.at_ eb) ⟨_, rfl, paired_setE rs (r.mono (s1.trans s2)) j⟩) (en.mono (s1.trans s2)) p
/-! ## a value made here that will change -/
def tMut (te : TE) : TE := te
theorem pe_mut {X : Cx} {e : Expr} {te : TE} (h : PE X e te) : PE X e (tMut te) := h
def WM (J : Jx) (te : TE) (Γ : Ga) (M : Ms) (P : Ent → Ms → Prop) : Prop := Wx J te Γ M P
variable {PE' : Ent → Ms → Prop} {te ta tb : TE} {t : TA}
theorem w_mut (h : WM J te Γ M PE') : Wx J (tMut te) Γ M PE' := h
theorem wm_any (h : Wx J te Γ M PE') : WM J te Γ M PE' := h
theorem wm_lst (h : WA J t Γ M fun es M1 => ∃ ds, es = ds.map Ent.d ∧ ds.length ≤ sizeLine ∧ PE' (.r M1.length) (M1 ++ [some (.lst ds)])) : WM J (tLst t) Γ M PE' := w_lstM h
theorem wm_lsE (h : WA J t Γ M fun es M1 => es.length ≤ sizeLine ∧ PE' (.r M1.length) (M1 ++ [some (.lsE es)])) : WM J (tLst t) Γ M PE' := w_lstE h
theorem wm_op {r : R2} (h : Wx J ta Γ M fun x M1 => Wx J tb Γ M1 fun y M2 => O2M J r x y M2 PE') : WM J (tOp r ta tb) Γ M PE' := w_op h
theorem wm_cb {r : List V → Hp → VK → Prop} (h : WA J t Γ M fun es M1 => ONM J r es M1 PE') : WM J (tCB r t) Γ M PE' := w_cb h
theorem wm_slice {r : V → Option Int → Option Int → Hp → VK → Prop} {tl th : TO} (h : Wx J te Γ M fun x M1 => WO J tl Γ M1 fun lo M2 => WO J th Γ M2 fun hi M3 => OSM J r x lo hi M3 PE') : WM J (tSl r te tl th) Γ M PE' := w_slice h
end
end Z
set_option Elab.async false
set_option linter.all false
set_option maxRecDepth 100000
set_option maxHeartbeats 4000000
namespace Z
open PySem PySem.Spec L2
/-! ## facts of the top -/
abbrev Fct := PySem.W.Frag → Bool
/-- the function that a staticmethod's, a classmethod's record holds -/
def recG (K : PySem.W.Frag) (p : Addr) : Addr := match K.lookup p with
  | some ⟨_, _, .fields vs, _⟩ => (match (vs.toList : List Value) with
    | .ref g :: _ => g
    | _ => 0)
  | _ => 0
/-- where a def stands; rc: behind a record -/
def adQ (K : PySem.W.Frag) (p : Str × Option Str) : Bool → Addr
  | false => He.fAd K p
  | true => recG K (He.fAd K p)
/-- what the text says of a def, its closure left out -/
def fnE (K : PySem.W.Frag) (a : Addr) : He.FnW := match K.lookup a with
  | some ⟨_, _, .func fd, _⟩ => some (fd.name, fd.qualname, fd.params, fd.body, fd.scope, fd.globals, [], fd.builtins)
  | _ => none
/-- the closure: none, or the class around (the file's name is told, too) -/
def cloB (K : PySem.W.Frag) (a : Addr) : Option (Str × Str) → Bool
  | none => (match K.lookup a with
    | some ⟨_, _, .func fd, _⟩ => fd.closure.isEmpty
    | _ => false)
  | some (file, c) => (match K.lookup a with
    | some ⟨_, _, .func fd, _⟩ => (match fd.closure with
      | [(n, cc)] => decide (n = "__class__") && ((match K.lookup cc with
        | some ⟨_, _, .cell (some (.ref D)), _⟩ => decide (D = He.ga K c)
        | _ => false) && (match fd.code with
          | .ref cda => (match K.lookup cda with
            | some ⟨_, _, .fields vs, _⟩ => (match (vs[2]? : Option Value) with
              | some (.str f _) => decide (f = file)
              | _ => false)
            | _ => false)
          | _ => false))
      | _ => false)
    | _ => false)
/-- one def; sup: the file and the class, where it says super(); rc: a static or class method -/
structure DefQ where
  d : He.DefD
  sup : Option (Str × Str) := none
  rc : Bool := false
def DefQ.ad (K : PySem.W.Frag) (d : DefQ) : Addr := adQ K d.d.at_ d.rc
def okD (K : PySem.W.Frag) (d : He.DefD) (a : Addr) : Bool := PySem.W.keepIn K (.ref a) && (match K.lookup a with
  | some ⟨_, _, .func fd, _⟩ => PySem.W.codeIn K fd.code d.qual && (He.dflB K fd.defaults (d.dvs K) && He.kwdB K fd.kwdefaults (d.kws K))
  | _ => false)
def DefQ.ok (K : PySem.W.Frag) (d : DefQ) : Bool := okD K d.d (d.ad K) && cloB K (d.ad K) d.sup
def valQ (fn : List DefQ) : He.AlD := (true, fn.map fun d => d.d.val)
def obsQ (fs : List Fct) (fn : List DefQ) (K : PySem.W.Frag) : He.AlD := ((fs.all fun f => f K) && fn.all fun d => d.ok K, fn.map fun d => fnE K (d.ad K))
def SaysQ (fs : List Fct) (fn : List DefQ) (K : PySem.W.Frag) : Prop := obsQ fs fn K = valQ fn
def obsQG (n : Nat) (fs : List Fct) (fn : List DefQ) (g : Addr → Option Obj) : He.AlD := obsQ fs fn (He.frG g (PySem.cStatics :: He.asD g n))
def hookQ (n : Nat) (fs : List Fct) (fn : List DefQ) : PySem.W.Hook where
  α := He.AlD
  obs := fun s => obsQG n fs fn s.heap.get?
  val := fun _ => valQ fn
  says := fun _ h => ∃ K : PySem.W.Frag, K.In h ∧ SaysQ fs fn K
  of := fun _ _ e => ⟨_, He.frG_in, e⟩
  keeps := fun _ _ _ ⟨K, hK, c⟩ k => ⟨K, PySem.W.Frag.In.keeps hK k, c⟩
theorem obsQG_eq {n : Nat} {fs : List Fct} {fn : List DefQ} {g : Addr → Option Obj} {s : Shared} (h : ∀ a, g a = s.heap.get? a) : obsQG n fs fn g = (hookQ n fs fn).obs s := by
  have e : g = s.heap.get? := funext h
  rw [e] <;> rfl
/-- what the written part says of a def that says super() -/
structure FunS (K : PySem.W.Frag) (file : Str) (x qual : Str) (params : Arguments) (body : List Stmt) (scope : Scope) (dvs : List V) (kws : List (Str × V)) (D : Addr) (f : Addr) (fd : FuncData) : Prop where
  ex : ∃ (oc : Value) (od : Option Addr) (dV kV doc pm : Value) (an : Option Addr) (cda cc : Addr) (ct : Value) (osl : Array (Option Value)),
    fd = PySem.W.ksFn x qual params body scope dV kV doc pm an (.ref cda) ct cc ∧ K.lookup f = some ⟨oc, od, .func fd, osl⟩ ∧ PySem.W.codeIn K (.ref cda) qual = true ∧ DflV K dV dvs ∧ KwdV K kV kws ∧
    (∃ cl cld csl, K.lookup cc = some ⟨cl, cld, .cell (some (.ref D)), csl⟩) ∧ ∃ ccl cdd vs ccs tf, K.lookup cda = some ⟨ccl, cdd, .fields vs, ccs⟩ ∧ vs[2]? = some (.str file tf)
  kp : PySem.W.keepIn K (.ref f) = true
theorem fnE_at {K : PySem.W.Frag} {d : He.DefD} {a : Addr} (e : fnE K a = d.val) (c : okD K d a = true) : ∃ oc od osl fd, K.lookup a = some ⟨oc, od, .func fd, osl⟩ ∧ fd.name = d.name ∧ fd.qualname = d.qual ∧ fd.params = d.params ∧ fd.body = .stmts d.body ∧ fd.scope = d.scope ∧ fd.globals = mainGlobals ∧ fd.builtins = builtinsNs ∧
    PySem.W.codeIn K fd.code d.qual = true ∧ DflV K fd.defaults (d.dvs K) ∧ KwdV K fd.kwdefaults (d.kws K) := by
  obtain ⟨kp, c2⟩ := He.ba c
  unfold fnE at e
  cases q : K.lookup a with
  | none =>
    rw [q] at c2
    cases c2
  | some o =>
    obtain ⟨oc, od, dt, osl⟩ := o
    rw [q] at c2 e
    cases dt with
    | func fd =>
      have e2 : (some (fd.name, fd.qualname, fd.params, fd.body, fd.scope, fd.globals, [], fd.builtins) : He.FnW) = some (d.name, d.qual, d.params, .stmts d.body, d.scope, mainGlobals, [], builtinsNs) := e
      simp only [Option.some.injEq, Prod.mk.injEq] at e2
      obtain ⟨h1, h2, h3, h4, h5, h6, _, h8⟩ := e2
      have c3 : (PySem.W.codeIn K fd.code d.qual && (He.dflB K fd.defaults (d.dvs K) && He.kwdB K fd.kwdefaults (d.kws K))) = true := c2
      obtain ⟨k1, k2⟩ := He.ba c3
      obtain ⟨k3, k4⟩ := He.ba k2
      exact ⟨oc, od, osl, fd, rfl, h1, h2, h3, h4, h5, h6, h8, k1, He.dflB_ok k3, He.kwdB_ok k4⟩
    | _ => cases c2
theorem DefQ.funD {K : PySem.W.Frag} {d : DefQ} (e : fnE K (d.ad K) = d.d.val) (c : d.ok K = true) (hs : d.sup = none) : ∃ fd, FunD K d.d.name d.d.qual d.d.params d.d.body d.d.scope (d.d.dvs K) (d.d.kws K) (d.ad K) fd := by
  obtain ⟨c1, c2⟩ := He.ba c
  rw [hs] at c2
  obtain ⟨oc, od, osl, fd, q, h1, h2, h3, h4, h5, h6, h8, k1, k3, k4⟩ := fnE_at e c1
  unfold cloB at c2
  rw [q] at c2
  have c3 : fd.closure.isEmpty = true := c2
  obtain ⟨n1, n2, n3, n4, n5, n6, n7, n8, n9, n10, n11, n12, n13, n14, n15⟩ := fd
  dsimp only at h1 h2 h3 h4 h5 h6 h8 k1 k3 k4 c3
  have h7 : n7 = [] := List.isEmpty_iff.mp c3
  subst h1 h2 h3 h4 h5 h6 h7 h8
  exact ⟨_, ⟨oc, od, n8, n9, n10, n11, n12, n13, n14, osl, rfl, q, k1, k3, k4⟩, (He.ba c1).1⟩
theorem DefQ.funS {K : PySem.W.Frag} {d : DefQ} {file cn : Str} (e : fnE K (d.ad K) = d.d.val) (c : d.ok K = true) (hs : d.sup = some (file, cn)) : ∃ fd, FunS K file d.d.name d.d.qual d.d.params d.d.body d.d.scope (d.d.dvs K) (d.d.kws K) (He.ga K cn) (d.ad K) fd := by
  obtain ⟨c1, c2⟩ := He.ba c
  rw [hs] at c2
  obtain ⟨oc, od, osl, fd, q, h1, h2, h3, h4, h5, h6, h8, k1, k3, k4⟩ := fnE_at e c1
  unfold cloB at c2
  rw [q] at c2
  obtain ⟨n1, n2, n3, n4, n5, n6, n7, n8, n9, n10, n11, n12, n13, n14, n15⟩ := fd
  dsimp only at h1 h2 h3 h4 h5 h6 h8 k1 k3 k4 c2
  match n7, c2 with
  | [(nm, cc)], c2 =>
    obtain ⟨a1, c2⟩ := He.ba c2
    obtain ⟨a2, a3⟩ := He.ba c2
    have a1 := of_decide_eq_true a1
    cases qc : K.lookup cc with
    | none => rw [qc] at a2; cases a2
    | some occ =>
      rw [qc] at a2
      obtain ⟨cl, cld, cdt, csl⟩ := occ
      cases cdt with
      | cell v =>
        cases v with
        | none => cases a2
        | some v =>
          cases v with
          | ref D =>
            have a2 : D = He.ga K cn := of_decide_eq_true a2
            cases n13 with
            | ref cda =>
              dsimp only at a3
              cases qd : K.lookup cda with
              | none => rw [qd] at a3; cases a3
              | some od2 =>
                rw [qd] at a3
                obtain ⟨ccl, cdd, ddt, ccs⟩ := od2
                cases ddt with
                | fields vs =>
                  dsimp only at a3
                  cases qv : vs[2]? with
                  | none => rw [qv] at a3; cases a3
                  | some v2 =>
                    rw [qv] at a3
                    cases v2 with
                    | str f tf =>
                      have a3 : f = file := of_decide_eq_true a3
                      subst h1 h2 h3 h4 h5 h6 h8 a1 a2 a3
                      exact ⟨_, ⟨oc, od, n8, n9, n10, n11, n12, cda, cc, n14, osl, rfl, q, k1, k3, k4, ⟨cl, cld, csl, qc⟩, ccl, cdd, vs, ccs, tf, qd, qv⟩, (He.ba c1).1⟩
                    | _ => cases a3
                | _ => cases a3
            | _ => cases a3
          | _ => cases a2
      | _ => cases a2
section
variable {fs : List Fct} {fn : List DefQ} {K : PySem.W.Frag}
theorem SaysQ.fact (c : SaysQ fs fn K) (i : Nat) {f : Fct} (h : fs[i]? = some f) : f K = true := by
  have c1 := (He.ba (show ((fs.all fun f => f K) && fn.all fun d => d.ok K) = true from congrArg (fun z : He.AlD => z.1) c)).1
  exact List.all_eq_true.mp c1 f (List.mem_of_getElem? h)
theorem SaysQ.at_ (c : SaysQ fs fn K) (i : Nat) {d : DefQ} (h : fn[i]? = some d) : fnE K (d.ad K) = d.d.val ∧ d.ok K = true := by
  have c2 := (He.ba (show ((fs.all fun f => f K) && fn.all fun d => d.ok K) = true from congrArg (fun z : He.AlD => z.1) c)).2
  have e : fn.map (fun d => fnE K (d.ad K)) = fn.map (fun d => d.d.val) := congrArg (fun z : He.AlD => z.2) c
  have e2 : (fn.map fun d => fnE K (d.ad K))[i]? = (fn.map fun d => d.d.val)[i]? := by rw [e]
  rw [List.getElem?_map, List.getElem?_map, h] at e2
  exact ⟨Option.some.inj e2, List.all_eq_true.mp c2 d (List.mem_of_getElem? h)⟩
end
/-- what the top has left -/
structure Top (fs : List Fct) (fn : List DefQ) (K : PySem.W.Frag) (mg : Str → Option Value) : Prop where
  ex : ∃ h : Heap, K.In h ∧ h.Ns mainGlobals mg ∧ SaysQ fs fn K
section
variable {fs : List Fct} {fn : List DefQ} {K : PySem.W.Frag} {mg : Str → Option Value}
theorem Top.fact (T : Top fs fn K mg) (i : Nat) {f : Fct} (h : fs[i]? = some f) : f K = true := by
  obtain ⟨_, _, _, c⟩ := T.ex
  exact c.fact i h
theorem Top.def_ (T : Top fs fn K mg) (i : Nat) {d : DefQ} (h : fn[i]? = some d) (hs : d.sup = none) : ∃ fd, FunD K d.d.name d.d.qual d.d.params d.d.body d.d.scope (d.d.dvs K) (d.d.kws K) (d.ad K) fd := by
  obtain ⟨_, _, _, c⟩ := T.ex
  obtain ⟨e, o⟩ := c.at_ i h
  exact DefQ.funD e o hs
theorem Top.defS (T : Top fs fn K mg) (i : Nat) {d : DefQ} {file cn : Str} (h : fn[i]? = some d) (hs : d.sup = some (file, cn)) : ∃ fd, FunS K file d.d.name d.d.qual d.d.params d.d.body d.d.scope (d.d.dvs K) (d.d.kws K) (He.ga K cn) (d.ad K) fd := by
  obtain ⟨_, _, _, c⟩ := T.ex
  obtain ⟨e, o⟩ := c.at_ i h
  exact DefQ.funS e o hs
def fGlo (x : Str) : Fct := fun K => (He.Fa.glo x).ok K
def fFree (x : Str) : Fct := fun K => (He.Fa.free x).ok K
def fStr (x z : Str) : Fct := fun K => (He.Fa.str x z).ok K
def fInt (x : Str) (z : Int) : Fct := fun K => (He.Fa.int x z).ok K
theorem Top.glo (T : Top fs fn K mg) (i : Nat) {x : Str} (h : fs[i]? = some (fGlo x)) : mg x = some (.ref (He.ga K x)) := by
  obtain ⟨_, X, G, c⟩ := T.ex
  exact He.glo_ok X G (c.fact i h)
theorem Top.free (T : Top fs fn K mg) (i : Nat) {x : Str} (h : fs[i]? = some (fFree x)) : mg x = none := by
  obtain ⟨_, X, G, c⟩ := T.ex
  exact He.free_ok X G (c.fact i h)
theorem Top.str (T : Top fs fn K mg) (i : Nat) {x z : Str} (h : fs[i]? = some (fStr x z)) : ∃ u, mg x = some u ∧ RelV (.str z) u := by
  obtain ⟨_, X, G, c⟩ := T.ex
  obtain ⟨t, e⟩ := He.str_ok X G (c.fact i h)
  exact ⟨_, e, t, rfl⟩
theorem Top.int (T : Top fs fn K mg) (i : Nat) {x : Str} {z : Int} (h : fs[i]? = some (fInt x z)) : ∃ u, mg x = some u ∧ RelV (.int z) u := by
  obtain ⟨_, X, G, c⟩ := T.ex
  obtain ⟨t, e⟩ := He.int_ok X G (c.fact i h)
  exact ⟨_, e, t, rfl⟩
end
/-! ## values at places -/
def perm {α : Type} (ix : List Nat) (l : List α) : List α := ix.filterMap (l[·]?)
theorem perm_paired {α β : Type} {R : α → β → Prop} {xs : List α} {ys : List β} (h : Paired R xs ys) : ∀ ix : List Nat, Paired R (perm ix xs) (perm ix ys)
  | [] => .nil
  | i :: ix => by
    unfold perm
    rw [List.filterMap_cons, List.filterMap_cons]
    cases e : ys[i]? with
    | none =>
      have hx : xs[i]? = none := by
        have l := Paired.length h
        rw [List.getElem?_eq_none_iff] at e ⊢
        omega
      rw [hx]
      exact perm_paired h ix
    | some y =>
      obtain ⟨x, e1, r⟩ := paired_get h e
      rw [e1]
      exact .cons r (perm_paired h ix)
/-- how a call binds: n values by place, those named ks, the constants cvs -/
abbrev KBp (K : PySem.W.Frag) (fd : FuncData) (ps : List Str) (n : Nat) (ks : List Str) (cvs : List V) (ix : List Nat) : Prop :=
  ∃ cs : List Value, KBn K fd ps n ks (fun us ws => perm ix (us ++ (cs ++ ws))) (fun vs zs => perm ix (vs ++ (cvs ++ zs)))
section
variable {K : PySem.W.Frag} {x qual : Str} {params : Arguments} {body : List Stmt} {scope : Scope} {dvs : List V} {kws : List (Str × V)} {f : Addr} {fd : FuncData} {ps : List Str}
theorem kbp00 (F : FunD K x qual params body scope [] kws f fd) (n : Nat) (ks : List Str) (ix : List Nat)
    (h : ∀ (kV doc pm : Value) (an : Option Addr) (cdv ct : Value) (us ws : List Value), us.length = n → ws.length = ks.length → bindArgs (PySem.W.fnOf x qual params body scope .none kV doc pm an cdv ct) ⟨us, ks.zip ws⟩ = pure (ps.zip (perm ix (us ++ ws)))) : KBp K fd ps n ks [] ix := by
  obtain ⟨oc, od, dV, kV, doc, pm, an, cdv, ct, osl, rfl, lk, hcd, hD, hK⟩ := F.ex
  rcases hD with ⟨_, rfl⟩ | ⟨e, _⟩
  · exact ⟨[], fun s us ws _ l1 l2 => .of_eq (h kV doc pm an cdv ct us ws l1 l2), fun r1 r2 => perm_paired (r1.append r2) ix⟩
  · exact absurd rfl e
theorem kbp10 (F : FunD K x qual params body scope dvs kws f fd) (hd : dvs ≠ []) (n : Nat) (ks : List Str) (ix : List Nat)
    (h : ∀ (T : Addr) (kV doc pm : Value) (an : Option Addr) (cdv ct : Value) (us its ws : List Value), us.length = n → its.length = dvs.length → ws.length = ks.length →
      ∃ k, bindArgs (PySem.W.fnOf x qual params body scope (.ref T) kV doc pm an cdv ct) ⟨us, ks.zip ws⟩ = seqItems? (.ref T) >>= k ∧ k (some its.toArray) = pure (ps.zip (perm ix (us ++ (its ++ ws))))) : KBp K fd ps n ks dvs ix := by
  obtain ⟨oc, od, dV, kV, doc, pm, an, cdv, ct, osl, rfl, lk, hcd, hD, hK⟩ := F.ex
  rcases hD with ⟨e, _⟩ | ⟨_, T, o, its, m, rfl, lT, oT, rT⟩
  · exact absurd e hd
  · refine ⟨its, fun s us ws X l1 l2 => ?_, fun r1 r2 => perm_paired (r1.append (rT.append r2)) ix⟩
    obtain ⟨k, e1, e2⟩ := h T kV doc pm an cdv ct us its ws l1 rT.length.symm l2
    refine BindsTo.of_looks fun M => ?_
    rw [e1]
    exact looks_items X lT oT (.of_pure e2)
/-- ms: the keyword-only parameters that lack -/
theorem kbp01 (F : FunD K x qual params body scope [] kws f fd) (n : Nat) (ks : List Str) (ms : List (Str × V)) (ix : List Nat) (hk : kws ≠ []) (hms : ∀ q ∈ ms, q ∈ kws)
    (h : ∀ (D : Addr) (doc pm : Value) (an : Option Addr) (cdv ct : Value) (us mv ws : List Value), us.length = n → mv.length = ms.length → ws.length = ks.length →
      KwChain D ((ms.map (·.1)).zip mv) (bindArgs (PySem.W.fnOf x qual params body scope .none (.ref D) doc pm an cdv ct) ⟨us, ks.zip ws⟩) (ps.zip (perm ix (us ++ (mv ++ ws))))) : KBp K fd ps n ks (ms.map (·.2)) ix := by
  obtain ⟨mv, hb⟩ := F.kbinds0 n ks ms (fun us mv ws => perm ix (us ++ (mv ++ ws))) hk hms (fun r1 r2 r3 => perm_paired (r1.append (r2.append r3)) ix) h
  exact ⟨mv, hb⟩
end
/-! ## calls -/
/-- f(e, .., k = v, ..): what is raised is wished for at the caller's slots -/
def tCallS (n m : Nat) (sp : Sp) (gV : List V → List V → List V) (E : L2.St → XK) (t tk : TA) : TE := fun σ H Q => t σ H fun vs H1 => tk σ H1 fun zs H2 => vs.length = n ∧ zs.length = m ∧ sp (gV vs zs) H2 Q (E σ)
/-- C(.., k = v, ..) -/
def tMakeS (C : Addr) (n m : Nat) (sp : Sp) (gV : List V → List V → List V) (E : L2.St → XK) (t tk : TA) : TE := fun σ H Q => t σ H fun vs H1 => tk σ H1 fun zs H2 => vs.length = n ∧ zs.length = m ∧ ∀ x dx, H2 x = none → H2 dx = none → dx ≠ x →
  sp (gV (.ref x :: vs) zs) (upd (upd H2 dx (.own x)) x (.ins C dx [])) (fun v H3 => v = .non ∧ Q (.ref x) H3) (E σ)
/-- the values vs by place, zs by name, the constants cvs -/
def tCaN (n m : Nat) (sp : Sp) (cvs : List V) (ix : List Nat) (E : L2.St → XK) (t tk : TA) : TE := tCallS n m sp (fun vs zs => perm ix (vs ++ (cvs ++ zs))) E t tk
def tMkN (C : Addr) (n m : Nat) (sp : Sp) (cvs : List V) (ix : List Nat) (E : L2.St → XK) (t tk : TA) : TE := tMakeS C n m sp (fun vs zs => perm ix (vs ++ (cvs ++ zs))) E t tk
def tEor (t t' : TE) : TE := fun σ H Q => t σ H Q ∨ t' σ H Q
section
variable {X : Cx} {CX : CXT} {k n : Nat} {f C : Addr} {fd : FuncData} {ps ks : List Str} {sp : Sp} {E : L2.St → XK} {x m : Str} {p pos apos : Pos} {e o : Expr} {es : List Expr} {kws : List Keyword} {ta : TE} {t tk : TA} {cvs : List V} {ix : List Nat} {g : List Value → List Value → List Value} {gV : List V → List V → List V}
theorem pe_eor {t t' : TE} (h : PE X e t) (h' : PE X e t') : PE X e (tEor t t') := ⟨fun pins s σ H Q I q => q.elim (h.run pins s σ H Q I) (h'.run pins s σ H Q I)⟩
/-- the call of a def that lets nothing out -/
theorem passN : ∀ σ : L2.St, PassesAt CX0 X σ E0 := fun _ _ _ _ _ _ _ z => z.elim
theorem run_fnS {pins : List (Addr × Obj)} {σ : L2.St} {H : Hp} {s : Shared} {Q : VK} {us ws : List Value} {vs zs : List V} {E : XK} (F : FnOk X.prog X.w X.K X.mg X.base CX k f fd ps sp) (hr : Room k X.A) (hb : KBn X.K fd ps n ks g gV) (hx : PassesAt CX X σ E)
    (I : Inv X pins σ H s) (r : Vals vs us) (rz : Vals zs ws) (l1 : vs.length = n) (l2 : zs.length = ks.length) (h : sp (gV vs zs) H Q E) : wpAny (model X.prog X.w) X.A (call (.ref f) us (ks.zip ws)) (EP X pins σ Q) X.xe s := by
  refine wpAny_call (codeAny_mono (F.run X.A X.stack s H ⟨us, ks.zip ws⟩ (g us ws) (gV vs zs) Q E hr I.env0 (hb.to s us ws I.kIn (r.length.symm.trans l1) (rz.length.symm.trans l2)) (hb.rel r rz) h) fun r s' hq => ?_)
  match r, hq with
  | .error e, hq => exact hx pins H s e s' I hq
  | .ok (.ret u), hq => exact I.after hq
  | .ok .next, hq | .ok .brk, hq | .ok .cont, hq => exact False.elim hq
theorem run_makeS {pins : List (Addr × Obj)} {σ : L2.St} {H : Hp} {s : Shared} {Q : VK} {us ws : List Value} {vs zs : List V} {E : XK} (M : Mk X.K C f) (F : FnOk X.prog X.w X.K X.mg X.base CX k f fd ps sp) (hr : Room (k + 1) X.A) (hb : KBn X.K fd ps (n + 1) ks g gV) (hx : PassesAt CX X σ E)
    (I : Inv X pins σ H s) (r : Vals vs us) (rz : Vals zs ws) (l1 : vs.length = n) (l2 : zs.length = ks.length)
    (h : ∀ x dx, H x = none → H dx = none → dx ≠ x → sp (gV (.ref x :: vs) zs) (upd (upd H dx (.own x)) x (.ins C dx [])) (fun v H2 => v = .non ∧ Q (.ref x) H2) E) :
    wpAny (model X.prog X.w) X.A (call (.ref C) us (ks.zip ws)) (EP X pins σ Q) X.xe s := by
  have hq := h (s.heap.objs.size + 1) s.heap.objs.size (I.hok.fresh (Nat.le_succ _)) (I.hok.fresh (Nat.le_refl _)) (Nat.ne_of_lt (Nat.lt_succ_self _))
  have I2 := Inv.made (C := C) I
  have r1 : Vals (V.ref (s.heap.objs.size + 1) :: vs) (Value.ref (s.heap.objs.size + 1) :: us) := .cons rfl r
  have n1 : (Value.ref (s.heap.objs.size + 1) :: us).length = n + 1 := by
    rw [List.length_cons, ← r.length, l1]
  refine wpAny_call (make_map (f := f) I.kIn M.makes M.init (beq_iff_eq.mp M.fn) (codeAny_mono (F.run _ X.stack _ _ ⟨Value.ref (s.heap.objs.size + 1) :: us, ks.zip ws⟩ (g (Value.ref (s.heap.objs.size + 1) :: us) ws) _ _ E (hr.make C us (ks.zip ws))
    (I2.env0.make C us (ks.zip ws)) (hb.to _ (Value.ref (s.heap.objs.size + 1) :: us) ws I2.kIn n1 (rz.length.symm.trans l2)) (hb.rel r1 rz) hq) fun r s' hq' => ?_))
  match r, hq' with
  | .error e, hq' => exact hx pins _ _ e s' I2 hq'
  | .ok (.ret u), hq' =>
    obtain ⟨v, H', I3, rv, ev, q3⟩ := I2.after hq'
    subst ev
    exact ⟨rv, ⟨V.ref (s.heap.objs.size + 1), H', I3, rfl, q3⟩⟩
  | .ok .next, hq' | .ok .brk, hq' | .ok .cont, hq' => exact False.elim hq'
/-- f(e, .., k = v, ..) -/
theorem pe_callS (F : FnOk X.prog X.w X.K X.mg X.base CX k f fd ps sp) (hr : Room k X.A) (hg : Gl X x) (hm : X.mg x = some (.ref f)) (hk : PySem.W.keepIn X.K (.ref f) = true) (hb : KBn X.K fd ps n ks g gV) (hx : ∀ σ, PassesAt CX X σ (E σ))
    (ha : PA X (e :: es) t) (hkw : PK X kws tk) (hall : (backToKw pos (keywordEach kws X.env)).all (·.1.isSome) = true := by rfl) (hks : (backToKw pos (keywordEach kws X.env)).filterMap (·.1) = ks := by rfl)
    (hdb : (x == ("__debug__" : Str)) = false := by decide) (he : starEach (e :: es) X.env = (false, eval e X.env) :: starEach es X.env := by rfl)
    (hpl : ((backTo pos (starEach (e :: es) X.env)).any (·.1) || (backToKw pos (keywordEach kws X.env)).any (·.1.isNone)) = false := by rfl) :
    PE X (.Call (.Name x p) (e :: es) kws pos) (tCallS n ks.length sp gV E t tk) := by
  refine ⟨fun pins s σ H Q I h => ?_⟩
  refine wpAny_Call_Name_kw (ld_glob I hg hm ?_ hdb)
  refine PySem.W.callWith_KW (h₀ := X.base) I.ok.mod.kin hk hall (thn (ha.run pos pins s σ H _ I h) fun us s1 ⟨vs, H1, I1, r, q⟩ => ?_) hpl he
  refine thn (hkw.run pos pins s1 σ H1 _ I1 q) fun ws s2 ⟨zs, H2, I2, rz, l1, l2, q2⟩ => ⟨I2.kIn, ?_⟩
  rw [hks]
  exact run_fnS F hr hb (hx σ) I2 r rz l1 l2 q2
/-- f() -/
theorem pe_call0S (F : FnOk X.prog X.w X.K X.mg X.base CX k f fd ps sp) (hr : Room k X.A) (hg : Gl X x) (hm : X.mg x = some (.ref f)) (hk : PySem.W.keepIn X.K (.ref f) = true) (hb : Binds X.K fd ps []) (hx : ∀ σ, PassesAt CX X σ (E σ))
    (hdb : (x == ("__debug__" : Str)) = false := by decide) : PE X (.Call (.Name x p) [] [] pos) (tCallSD sp [] E tNil) := by
  refine ⟨fun pins s σ H Q I h => ?_⟩
  refine wpAny_Call_Name_kw (ld_glob I hg hm ?_ hdb)
  refine PySem.W.callWith_KW0 (kws := []) (h₀ := X.base) I.ok.mod.kin hk rfl ?_ rfl
  have h' : sp [] H Q (E σ) := h
  refine wpAny_pure ⟨I.kIn, ?_⟩
  exact run_fnSD (us := []) (vs := []) F hr hb .nil (hx σ) I .nil h'
/-- f(k = v, ..) -/
theorem pe_callN0 (F : FnOk X.prog X.w X.K X.mg X.base CX k f fd ps sp) (hr : Room k X.A) (hg : Gl X x) (hm : X.mg x = some (.ref f)) (hk : PySem.W.keepIn X.K (.ref f) = true) (hb : KBn X.K fd ps 0 ks g gV) (hx : ∀ σ, PassesAt CX X σ (E σ))
    (hkw : PK X kws tk) (hall : (backToKw pos (keywordEach kws X.env)).all (·.1.isSome) = true := by rfl) (hks : (backToKw pos (keywordEach kws X.env)).filterMap (·.1) = ks := by rfl)
    (hdb : (x == ("__debug__" : Str)) = false := by decide) (hpl : ((backTo pos (starEach [] X.env)).any (·.1) || (backToKw pos (keywordEach kws X.env)).any (·.1.isNone)) = false := by rfl) :
    PE X (.Call (.Name x p) [] kws pos) (tCallS 0 ks.length sp gV E tNil tk) := by
  refine ⟨fun pins s σ H Q I h => ?_⟩
  refine wpAny_Call_Name_kw (ld_glob I hg hm ?_ hdb)
  refine PySem.W.callWith_KW0 (h₀ := X.base) I.ok.mod.kin hk hall ?_ hpl
  refine thn (hkw.run pos pins s σ H _ I h) fun ws s2 ⟨zs, H2, I2, rz, l1, l2, q2⟩ => ⟨I2.kIn, ?_⟩
  rw [hks]
  exact run_fnS (us := []) (vs := []) F hr hb (hx σ) I2 .nil rz rfl l2 q2
theorem pe_caN (F : FnOk X.prog X.w X.K X.mg X.base CX k f fd ps sp) (hr : Room k X.A) (hg : Gl X x) (hm : X.mg x = some (.ref f)) (hk : PySem.W.keepIn X.K (.ref f) = true) (hb : KBp X.K fd ps n ks cvs ix) (hx : ∀ σ, PassesAt CX X σ (E σ))
    (ha : PA X (e :: es) t) (hkw : PK X kws tk) (hall : (backToKw pos (keywordEach kws X.env)).all (·.1.isSome) = true := by rfl) (hks : (backToKw pos (keywordEach kws X.env)).filterMap (·.1) = ks := by rfl)
    (hdb : (x == ("__debug__" : Str)) = false := by decide) (he : starEach (e :: es) X.env = (false, eval e X.env) :: starEach es X.env := by rfl)
    (hpl : ((backTo pos (starEach (e :: es) X.env)).any (·.1) || (backToKw pos (keywordEach kws X.env)).any (·.1.isNone)) = false := by rfl) : PE X (.Call (.Name x p) (e :: es) kws pos) (tCaN n ks.length sp cvs ix E t tk) := by
  obtain ⟨cs, hb⟩ := hb
  exact pe_callS F hr hg hm hk hb hx ha hkw hall hks hdb he hpl
theorem pe_caN0 (F : FnOk X.prog X.w X.K X.mg X.base CX k f fd ps sp) (hr : Room k X.A) (hg : Gl X x) (hm : X.mg x = some (.ref f)) (hk : PySem.W.keepIn X.K (.ref f) = true) (hb : KBp X.K fd ps 0 ks cvs ix) (hx : ∀ σ, PassesAt CX X σ (E σ))
    (hkw : PK X kws tk) (hall : (backToKw pos (keywordEach kws X.env)).all (·.1.isSome) = true := by rfl) (hks : (backToKw pos (keywordEach kws X.env)).filterMap (·.1) = ks := by rfl)
    (hdb : (x == ("__debug__" : Str)) = false := by decide) (hpl : ((backTo pos (starEach [] X.env)).any (·.1) || (backToKw pos (keywordEach kws X.env)).any (·.1.isNone)) = false := by rfl) :
    PE X (.Call (.Name x p) [] kws pos) (tCaN 0 ks.length sp cvs ix E tNil tk) := by
  obtain ⟨cs, hb⟩ := hb
  exact pe_callN0 F hr hg hm hk hb hx hkw hall hks hdb hpl
/-- C(k = v, ..) -/
theorem pe_makeS0 (M : Mk X.K C f) (F : FnOk X.prog X.w X.K X.mg X.base CX k f fd ps sp) (hr : Room (k + 1) X.A) (hg : Gl X x) (hm : X.mg x = some (.ref C)) (hb : KBn X.K fd ps 1 ks g gV) (hx : ∀ σ, PassesAt CX X σ (E σ)) (hkw : PK X kws tk)
    (hall : (backToKw pos (keywordEach kws X.env)).all (·.1.isSome) = true := by rfl) (hks : (backToKw pos (keywordEach kws X.env)).filterMap (·.1) = ks := by rfl) (hdb : (x == ("__debug__" : Str)) = false := by decide)
    (hpl : ((backTo pos (starEach [] X.env)).any (·.1) || (backToKw pos (keywordEach kws X.env)).any (·.1.isNone)) = false := by rfl) :
    PE X (.Call (.Name x p) [] kws pos) (tMakeS C 0 ks.length sp gV E tNil tk) := by
  refine ⟨fun pins s σ H Q I h => ?_⟩
  refine wpAny_Call_Name_kw (ld_glob I hg hm ?_ hdb)
  refine PySem.W.callWith_KW0 (h₀ := X.base) I.ok.mod.kin M.kp hall ?_ hpl
  refine thn (hkw.run pos pins s σ H _ I h) fun ws s2 ⟨zs, H2, I2, rz, l1, l2, q2⟩ => ⟨I2.kIn, ?_⟩
  rw [hks]
  exact run_makeS (us := []) (vs := []) M F hr hb (hx σ) I2 .nil rz rfl l2 q2
/-- C(e, .., k = v, ..) -/
theorem pe_makeS (M : Mk X.K C f) (F : FnOk X.prog X.w X.K X.mg X.base CX k f fd ps sp) (hr : Room (k + 1) X.A) (hg : Gl X x) (hm : X.mg x = some (.ref C)) (hb : KBn X.K fd ps (n + 1) ks g gV) (hx : ∀ σ, PassesAt CX X σ (E σ)) (ha : PA X (e :: es) t) (hkw : PK X kws tk)
    (hall : (backToKw pos (keywordEach kws X.env)).all (·.1.isSome) = true := by rfl) (hks : (backToKw pos (keywordEach kws X.env)).filterMap (·.1) = ks := by rfl) (hdb : (x == ("__debug__" : Str)) = false := by decide)
    (he : starEach (e :: es) X.env = (false, eval e X.env) :: starEach es X.env := by rfl) (hpl : ((backTo pos (starEach (e :: es) X.env)).any (·.1) || (backToKw pos (keywordEach kws X.env)).any (·.1.isNone)) = false := by rfl) :
    PE X (.Call (.Name x p) (e :: es) kws pos) (tMakeS C n ks.length sp gV E t tk) := by
  refine ⟨fun pins s σ H Q I h => ?_⟩
  refine wpAny_Call_Name_kw (ld_glob I hg hm ?_ hdb)
  refine PySem.W.callWith_KW (h₀ := X.base) I.ok.mod.kin M.kp hall (thn (ha.run pos pins s σ H _ I h) fun us s1 ⟨vs, H1, I1, r, q⟩ => ?_) hpl he
  refine thn (hkw.run pos pins s1 σ H1 _ I1 q) fun ws s2 ⟨zs, H2, I2, rz, l1, l2, q2⟩ => ⟨I2.kIn, ?_⟩
  rw [hks]
  exact run_makeS M F hr hb (hx σ) I2 r rz l1 l2 q2
theorem pe_mkN0 (M : Mk X.K C f) (F : FnOk X.prog X.w X.K X.mg X.base CX k f fd ps sp) (hr : Room (k + 1) X.A) (hg : Gl X x) (hm : X.mg x = some (.ref C)) (hb : KBp X.K fd ps 1 ks cvs ix) (hx : ∀ σ, PassesAt CX X σ (E σ)) (hkw : PK X kws tk)
    (hall : (backToKw pos (keywordEach kws X.env)).all (·.1.isSome) = true := by rfl) (hks : (backToKw pos (keywordEach kws X.env)).filterMap (·.1) = ks := by rfl) (hdb : (x == ("__debug__" : Str)) = false := by decide)
    (hpl : ((backTo pos (starEach [] X.env)).any (·.1) || (backToKw pos (keywordEach kws X.env)).any (·.1.isNone)) = false := by rfl) : PE X (.Call (.Name x p) [] kws pos) (tMkN C 0 ks.length sp cvs ix E tNil tk) := by
  obtain ⟨cs, hb⟩ := hb
  exact pe_makeS0 M F hr hg hm hb hx hkw hall hks hdb hpl
theorem pe_mkN (M : Mk X.K C f) (F : FnOk X.prog X.w X.K X.mg X.base CX k f fd ps sp) (hr : Room (k + 1) X.A) (hg : Gl X x) (hm : X.mg x = some (.ref C)) (hb : KBp X.K fd ps (n + 1) ks cvs ix) (hx : ∀ σ, PassesAt CX X σ (E σ)) (ha : PA X (e :: es) t) (hkw : PK X kws tk)
    (hall : (backToKw pos (keywordEach kws X.env)).all (·.1.isSome) = true := by rfl) (hks : (backToKw pos (keywordEach kws X.env)).filterMap (·.1) = ks := by rfl) (hdb : (x == ("__debug__" : Str)) = false := by decide)
    (he : starEach (e :: es) X.env = (false, eval e X.env) :: starEach es X.env := by rfl) (hpl : ((backTo pos (starEach (e :: es) X.env)).any (·.1) || (backToKw pos (keywordEach kws X.env)).any (·.1.isNone)) = false := by rfl) :
    PE X (.Call (.Name x p) (e :: es) kws pos) (tMkN C n ks.length sp cvs ix E t tk) := by
  obtain ⟨cs, hb⟩ := hb
  exact pe_makeS M F hr hg hm hb hx ha hkw hall hks hdb he hpl
end
end Z
set_option Elab.async false
set_option linter.all false
set_option maxRecDepth 100000
set_option maxHeartbeats 4000000
namespace Z
open PySem PySem.Spec L2
/-! ## instances -/
/-- an instance that no longer changes -/
def ob (C : Addr) (fs : List (Str × PyData)) : PyData := .dict ((.none, .int (C : Int)) :: fs.map fun p => (.str p.1, p.2))
abbrev DVs (K : PySem.W.Frag) (F : Wd) (vs : List (Str × V)) (fs : List (Str × PyData)) : Prop := Paired (fun (p : Str × V) (q : Str × PyData) => p.1 = q.1 ∧ Rp K F p.2 q.2) vs fs
theorem rpFs_of {K : PySem.W.Frag} {F : Wd} : ∀ {vs : List (Str × V)} {fs : List (Str × PyData)}, RpFs K F vs (fs.map fun p => (.str p.1, p.2)) → DVs K F vs fs
  | _, [], .nil => .nil
  | _, _ :: _, .cons h r => .cons ⟨rfl, h⟩ (rpFs_of r)
theorem rpFs_to {K : PySem.W.Frag} {F : Wd} : ∀ {vs : List (Str × V)} {fs : List (Str × PyData)}, DVs K F vs fs → RpFs K F vs (fs.map fun p => (.str p.1, p.2))
  | _, _, .nil => .nil
  | (a, v) :: _, (b, d) :: _, .cons h r => by
    obtain ⟨e, h2⟩ := h
    have e' : a = b := e
    subst e'
    exact .cons h2 (rpFs_to r)
theorem rp_ob0 {K : PySem.W.Frag} {F : Wd} {v : V} {d : PyData} {C : Addr} {fs : List (Str × PyData)} (h : Rp K F v d) (e : d = ob C fs) : ∃ a dx vs, v = .ref a ∧ F.F a = some (.ins C dx vs) ∧ DVs K F vs fs := by
  cases h with
  | obj ea r =>
    injection e with e
    injection e with e1 e2
    injection e1 with _ e3
    injection e3 with e4
    have e5 := Int.ofNat.inj e4
    subst e5
    subst e2
    exact ⟨_, _, _, rfl, ea, rpFs_of r⟩
  | _ => cases e
theorem rp_ob {K : PySem.W.Frag} {F : Wd} {v : V} {C : Addr} {fs : List (Str × PyData)} (h : Rp K F v (ob C fs)) : ∃ a dx vs, v = .ref a ∧ F.F a = some (.ins C dx vs) ∧ DVs K F vs fs := rp_ob0 h rfl
theorem rp_mk {K : PySem.W.Frag} {F : Wd} {a C dx : Addr} {vs : List (Str × V)} {fs : List (Str × PyData)} (e : F.F a = some (.ins C dx vs)) (r : DVs K F vs fs) : Rp K F (.ref a) (ob C fs) := .obj e (rpFs_to r)
theorem look_some {α β : Type} {R : α → β → Prop} {f : Str} : ∀ {vs : List (Str × α)} {fs : List (Str × β)} {d : β}, Paired (fun (p : Str × α) (q : Str × β) => p.1 = q.1 ∧ R p.2 q.2) vs fs → fs.lookup f = some d → ∃ v, vs.lookup f = some v ∧ R v d
  | _, _, _, .nil, e => by cases e
  | (a, v) :: vs, (b, d) :: fs, d', .cons ⟨e, r⟩ t, h => by
    have e' : a = b := e
    subst e'
    rw [List.lookup_cons] at h ⊢
    cases q : (f == a) with
    | true =>
      rw [q] at h
      have e2 : d = d' := Option.some.inj h
      subst e2
      exact ⟨v, rfl, r⟩
    | false =>
      rw [q] at h
      exact look_some t h
theorem look_none {α β : Type} {R : α → β → Prop} {f : Str} : ∀ {vs : List (Str × α)} {fs : List (Str × β)}, Paired (fun (p : Str × α) (q : Str × β) => p.1 = q.1 ∧ R p.2 q.2) vs fs → fs.lookup f = none → vs.lookup f = none
  | _, _, .nil, _ => rfl
  | (a, v) :: vs, (b, d) :: fs, .cons ⟨e, r⟩ t, h => by
    have e' : a = b := e
    subst e'
    rw [List.lookup_cons] at h ⊢
    cases q : (f == a) with
    | true => rw [q] at h; cases h
    | false =>
      rw [q] at h
      exact look_none t h
/-- an instance, by what it holds -/
inductive OV (M : Ms) : Ent → Addr → List (Str × Ent) → Prop
  | d {C : Addr} {fs : List (Str × PyData)} {es : List (Str × Ent)} (h : fs.map (fun p => (p.1, Ent.d p.2)) = es) : OV M (.d (ob C fs)) C es
  | r {n : Nat} {C : Addr} {es : List (Str × Ent)} (h : M[n]? = some (some (.ins C es))) : OV M (.r n) C es
theorem paired_mapR2 {α β γ : Type} {R : α → β → Prop} {S : α → γ → Prop} (f : β → γ) {xs : List α} {ys : List β} (h : Paired R xs ys) (k : ∀ x y, R x y → S x (f y)) : Paired S xs (ys.map f) := paired_mapR f h fun x y _ r => k x y r
theorem ov_ok {K : PySem.W.Frag} {F : Wd} {M : Ms} {Z H : Hp} {v : V} {e : Ent} {C : Addr} {es : List (Str × Ent)} (m : Mem K F M Z H) (r : RE K F v e) (h : OV M e C es) : ∃ a dx vs, v = .ref a ∧ H a = some (.ins C dx vs) ∧ FVs K F vs es := by
  cases h with
  | d h =>
    subst h
    obtain ⟨a, dx, vs, rfl, e, rs⟩ := rp_ob r
    exact ⟨a, dx, vs, rfl, m.sub _ _ e, paired_mapR2 _ rs fun p q z => ⟨z.1, z.2⟩⟩
  | r h =>
    obtain ⟨b, eb, rfl⟩ := r
    obtain ⟨a, dx, vs, h0, _, h1, h2⟩ := m.ins h
    rw [eb] at h0
    cases h0
    exact ⟨b, dx, vs, rfl, h1, h2⟩
/-! ### attributes -/
def tFldS (Cs : List Addr) (f : Str) (ta : TE) : TE := fun σ H Q => ta σ H fun x H1 => ∃ a C dx fs v, x = .ref a ∧ H1 a = some (.ins C dx fs) ∧ C ∈ Cs ∧ fs.lookup f = some v ∧ Q v H1
def sFldS (Cs : List Addr) (ta tv : TE) (f : Str) : TS := fun D σ H => tv σ H fun y H1 => ta σ H1 fun x H2 => ∃ a C dx fs, x = .ref a ∧ H2 a = some (.ins C dx fs) ∧ C ∈ Cs ∧ fs.length < 1000 ∧ D.nx σ (upd H2 a (.ins C dx (putF f y fs)))
def tConS (f : Str) (Cs : List (Addr × V)) (ta : TE) : TE := fun σ H Q => ta σ H fun x H1 => ∃ a C dx fs v, x = .ref a ∧ H1 a = some (.ins C dx fs) ∧ (C, v) ∈ Cs ∧ fs.lookup f = none ∧ Q v H1
section
variable {X : Cx} {Cs : List Addr} {f : Str} {e : Expr} {ta : TE} {pos : Pos}
theorem pe_fldS (he : PE X e ta) (hc : ∀ C ∈ Cs, Cls X.K C ∧ NoAttr X.K C f) (hb : attributeBase e f X.env (eval e X.env) = eval e X.env) : PE X (.Attribute e f pos) (tFldS Cs f ta) := by
  refine ⟨fun pins s σ H Q I h => ?_⟩
  refine attr_of hb (thn (he.run pins s σ H _ I h) fun u s1 ⟨x, H1, I1, rx, a, C, dx, fs, v, ex, ea, hm, hl, q⟩ => ?_)
  subst ex
  obtain rfl : u = Value.ref a := rx
  obtain ⟨c, n⟩ := hc C hm
  exact getattr_ok I1 ea c n hl fun w s2 I2 rw => ⟨v, H1, I2, rw, q⟩
theorem pe_conS {Ds : List (Addr × V)} (he : PE X e ta) (hc : ∀ p ∈ Ds, ∃ u, Cls X.K p.1 ∧ Con X.K p.1 f p.2 u) (hb : attributeBase e f X.env (eval e X.env) = eval e X.env) : PE X (.Attribute e f pos) (tConS f Ds ta) := by
  refine ⟨fun pins s σ H Q I h => ?_⟩
  refine attr_of hb (thn (he.run pins s σ H _ I h) fun u s1 ⟨x, H1, I1, rx, a, C, dx, fs, v, ex, ea, hm, hl, q⟩ => ?_)
  subst ex
  obtain rfl : u = Value.ref a := rx
  obtain ⟨w, c, n⟩ := hc _ hm
  exact getcon_ok I1 ea c n hl fun s2 I2 => ⟨v, H1, I2, n.rel, q⟩
end
section
variable {J : Jx} {Γ : Ga} {M : Ms} {P : Ent → Ms → Prop} {D : Nd} {ta tv : TE} {Cs : List Addr} {f : Str}
theorem w_fldS (h : Wx J ta Γ M fun x M1 => ∃ C fs e, OV M1 x C fs ∧ C ∈ Cs ∧ fs.lookup f = some e ∧ P e M1) : Wx J (tFldS Cs f ta) Γ M P := fun F Z σ H en m x Q q =>
  h F Z σ H en m x _ fun v F1 H1 e M1 s1 m1 r1 ⟨C, fs, d, ho, hc, hl, p⟩ => by
    obtain ⟨a, dx, vs, rfl, ea, rs⟩ := ov_ok m1 r1 ho
    obtain ⟨w, h1, h2⟩ := look_some (R := RE J.K F1) rs hl
    exact ⟨a, C, dx, vs, w, rfl, ea, hc, h1, q w F1 H1 d M1 s1 m1 h2 p⟩
theorem w_conS {Ds : List (Addr × V)} {d : V → Ent} (hd : ∀ F v, RE J.K F v (d v)) (h : Wx J ta Γ M fun x M1 => ∃ C fs v, OV M1 x C fs ∧ (C, v) ∈ Ds ∧ fs.lookup f = none ∧ P (d v) M1) : Wx J (tConS f Ds ta) Γ M P := fun F Z σ H en m x Q q =>
  h F Z σ H en m x _ fun v F1 H1 e M1 s1 m1 r1 ⟨C, fs, w, ho, hc, hl, p⟩ => by
    obtain ⟨a, dx, vs, rfl, ea, rs⟩ := ov_ok m1 r1 ho
    exact ⟨a, C, dx, vs, w, rfl, ea, hc, look_none (R := RE J.K F1) rs hl, q w F1 H1 _ M1 s1 m1 (hd F1 w) p⟩
def putE (f : Str) (e : Ent) : List (Str × Ent) → List (Str × Ent)
  | [] => [(f, e)]
  | (g, u) :: r => if g = f then (g, e) :: r else (g, u) :: putE f e r
theorem put_paired {K : PySem.W.Frag} {F : Wd} {f : Str} {v : V} {e : Ent} (r : RE K F v e) : ∀ {vs : List (Str × V)} {fs : List (Str × Ent)}, FVs K F vs fs → FVs K F (putF f v vs) (putE f e fs)
  | _, _, .nil => .cons ⟨rfl, r⟩ .nil
  | (a, u) :: vs, (b, d) :: fs, .cons ⟨e1, q⟩ t => by
    have e' : a = b := e1
    subst e'
    show FVs K F (if a = f then (a, v) :: vs else (a, u) :: putF f v vs) (if a = f then (a, e) :: fs else (a, d) :: putE f e fs)
    split
    · exact .cons ⟨rfl, r⟩ t
    · exact .cons ⟨rfl, q⟩ (put_paired r t)
theorem s_fldS (h : Wx J tv Γ M fun e M1 => Wx J ta Γ M1 fun x M2 => ∃ n C fs, x = .r n ∧ M2[n]? = some (some (.ins C fs)) ∧ C ∈ Cs ∧ Nat.ble fs.length 900 = true ∧ D.nx Γ (M2.set n (some (.ins C (putE f e fs))))) : Sx J (sFldS Cs ta tv f) D Γ M := fun F Z σ H C en m x d =>
  h F Z σ H en m x _ fun v F1 H1 e M1 s1 m1 r1 h1 => h1 F1 Z σ H1 (en.mono s1) m1 (x.mono s1) _ fun w F2 H2 e2 M2 s2 m2 r2 ⟨n, D', fs, ex, hm, hc, hl, p⟩ => by
    subst ex
    obtain ⟨b, eb, rfl⟩ := r2
    obtain ⟨a, dx, vs, h0, _, ea, rs⟩ := m2.ins hm
    rw [eb] at h0
    cases h0
    have hl' := Nat.le_of_ble_eq_true hl
    refine ⟨b, D', dx, vs, rfl, ea, hc, by rw [Paired.length rs]; omega, ?_⟩
    exact d.nx F2 _ _ σ Γ (s1.trans s2) (m2.write (o := .ins D' dx (putF f v vs)) (m := .ins D' (putE f e fs)) hm eb ⟨dx, _, rfl, put_paired (r1.mono s2) rs⟩) (en.mono (s1.trans s2)) p
end
section
variable {X : Cx} {Cs : List Addr} {f : Str} {o value : Expr} {ta tv : TE} {pos pos' : Pos}
theorem ps_fldS (ha : PE X o ta) (hv : PE X value tv) (hc : ∀ C ∈ Cs, Cls X.K C ∧ NoAttr X.K C f) (hs : swapsWith value (some (.Attribute o f pos')) pos.line X.env = pure false) : PS X (.Assign [.Attribute o f pos'] value pos) (sFldS Cs ta tv f) := by
  refine ⟨fun pins s σ H D I h => ?_⟩
  refine plainObj_wpAny_Assign_Attribute (thn (hv.run pins s σ H _ I h) fun u s1 ⟨y, H1, I1, ry, q⟩ => thn (ha.run pins s1 σ H1 _ I1 q) fun ov s2 ⟨x, H2, I2, rx, a, C, dx, fs, ex, ea, hm, l, q2⟩ => ?_) hs
  subst ex
  obtain rfl : ov = Value.ref a := rx
  obtain ⟨c, n⟩ := hc C hm
  exact setattr_ok I2 ea c n l ry fun s3 I3 => ⟨σ, _, I3, q2⟩
end
/-! ### calls over data -/
/-- constants, as data -/
abbrev CVs (cvs : List V) (ces : List Ent) : Prop := ∀ (K : PySem.W.Frag) (F : Wd), REs K F cvs ces
section
variable {J : Jx} {Γ : Ga} {M : Ms} {P : Ent → Ms → Prop} {t tk : TA} {c : ASp} {n m : Nat} {cvs : List V} {ces : List Ent} {ix : List Nat} {ta : TE}
theorem w_call (h : WA J t Γ M fun es M1 => Fr c es M1 P X0) : Wx J (tCallSD (spA J.K c) [] (fun _ => E0) t) Γ M P := w_call0 (des := []) (fun _ => .nil) fun F Z σ H en m x Q q => h F Z σ H en m x Q fun vs F' H' es M' s m' r p => q vs F' H' es M' s m' r (by show Fr c (es ++ []) M' P X0; rw [List.append_nil]; exact p)
theorem w_callx (h : WA J t Γ M fun es M1 => Fr c es M1 P (J.X Γ)) : Wx J (tCallSD (spA J.K c) [] (WE J.E) t) Γ M P := w_callE (des := []) (fun _ => .nil) fun F Z σ H en m x Q q => h F Z σ H en m x Q fun vs F' H' es M' s m' r p => q vs F' H' es M' s m' r (by show Fr c (es ++ []) M' P (J.X Γ); rw [List.append_nil]; exact p)
/-- what a call lets out: nothing, or what the def around lets out -/
inductive Lets (J : Jx) : (L2.St → XK) → (Ga → Xa) → Prop
  | no : Lets J (fun _ => E0) (fun _ => X0)
  | as : Lets J (WE J.E) J.X
theorem Lets.xr {J : Jx} {E : L2.St → XK} {X : Ga → Xa} (l : Lets J E X) {F : Wd} {Z : Hp} (x : XR J F Z) {σ : L2.St} {Γ : Ga} (en : EnvOk J.K F σ Γ) : XRc J.K (E σ) (X Γ) F Z := by
  cases l with
  | no => exact fun _ _ _ _ _ _ _ _ z _ => z.elim
  | as => exact x.at_ en
theorem w_caN {E : L2.St → XK} {X : Ga → Xa} (l : Lets J E X) (hd : CVs cvs ces) (h : WA J t Γ M fun es M1 => WA J tk Γ M1 fun zs M2 => es.length = n ∧ zs.length = m ∧ Fr c (perm ix (es ++ (ces ++ zs))) M2 P (X Γ)) : Wx J (tCaN n m (spA J.K c) cvs ix E t tk) Γ M P := fun F Z σ H en mm x Q q =>
  h F Z σ H en mm x _ fun vs F1 H1 es M1 s1 m1 r1 h1 => h1 F1 Z σ H1 (en.mono s1) m1 (x.mono s1) _ fun zs F2 H2 fs M2 s2 m2 r2 ⟨l1, l2, h2⟩ =>
    ⟨r1.length.trans l1, r2.length.trans l2, fr_sp (J := J) (E := E σ) h2 (perm_paired (paired_append (r1.mono s2) (paired_append (hd _ F2) r2)) ix) m2 (l.xr (x.mono (s1.trans s2)) (en.mono (s1.trans s2))) fun v F' H' e M' s' m' r p => q v F' H' e M' ((s1.trans s2).trans s') m' r p⟩
/-- a method by the instance's class -/
structure MA where
  C : Addr
  c : ASp
  cvs : List V
  ces : List Ent
  ix : List Nat
def tMeA (K : PySem.W.Frag) (mn : Str) (n m : Nat) (as : List MA) (E : L2.St → XK) (ta : TE) (t tk : TA) : TE := fun σ H Q => ta σ H fun x H1 => ∃ a C dx fs, x = .ref a ∧ H1 a = some (.ins C dx fs) ∧ fs.lookup mn = none ∧ ∃ y ∈ as, y.C = C ∧
  t σ H1 fun vs H2 => tk σ H2 fun zs H3 => vs.length = n ∧ zs.length = m ∧ spA K y.c (perm y.ix ((x :: vs) ++ (y.cvs ++ zs))) H3 Q (E σ)
theorem w_meA {E : L2.St → XK} {X : Ga → Xa} {as : List MA} {mn : Str} (l : Lets J E X) (hd : ∀ y ∈ as, CVs y.cvs y.ces) (h : Wx J ta Γ M fun x M1 => ∃ C fs, OV M1 x C fs ∧ fs.lookup mn = none ∧ ∃ y ∈ as, y.C = C ∧
    WA J t Γ M1 fun es M2 => WA J tk Γ M2 fun zs M3 => es.length = n ∧ zs.length = m ∧ Fr y.c (perm y.ix ((x :: es) ++ (y.ces ++ zs))) M3 P (X Γ)) : Wx J (tMeA J.K mn n m as E ta t tk) Γ M P := fun F Z σ H en mm x Q q =>
  h F Z σ H en mm x _ fun v F1 H1 e M1 s1 m1 r1 ⟨C, fs, ho, hl, y, hy, ec, h1⟩ => by
    obtain ⟨a, dx, us, rfl, ea, rs⟩ := ov_ok m1 r1 ho
    refine ⟨a, C, dx, us, rfl, ea, look_none (R := RE J.K F1) rs hl, y, hy, ec, ?_⟩
    exact h1 F1 Z σ H1 (en.mono s1) m1 (x.mono s1) _ fun vs F2 H2 es M2 s2 m2 r2 h2 => h2 F2 Z σ H2 (en.mono (s1.trans s2)) m2 (x.mono (s1.trans s2)) _ fun zs F3 H3 fs M3 s3 m3 r3 ⟨l1, l2, h3⟩ =>
      ⟨r2.length.trans l1, r3.length.trans l2, fr_sp (J := J) (E := E σ) h3 (perm_paired (paired_append (.cons (r1.mono (s2.trans s3)) (r2.mono s3)) (paired_append (hd y hy _ F3) r3)) y.ix) m3 (l.xr (x.mono ((s1.trans s2).trans s3)) (en.mono ((s1.trans s2).trans s3))) fun v F' H' e M' s' m' r p => q v F' H' e M' (((s1.trans s2).trans s3).trans s') m' r p⟩
/-- the choice of what is kept at an instance's making -/
def MkEnd (M : Ms) (C : Addr) (P : Ent → Ms → Prop) : Ent → Ms → Prop := fun e M2 => e = .d .none ∧ ((∃ fs, M2[M.length]? = some (some (.ins C (fs.map fun p => (p.1, Ent.d p.2)))) ∧ flatMs (M2.take M.length) = true ∧ P (.d (ob C fs)) (M2.take M.length)) ∨ P (.r M.length) M2)
theorem lmap_d {K : PySem.W.Frag} {F : Wd} : ∀ {vs : List (Str × V)} {fs : List (Str × PyData)}, FVs K F vs (fs.map fun p => (p.1, Ent.d p.2)) → DVs K F vs fs
  | _, [], .nil => .nil
  | _, _ :: _, .cons h r => .cons h (lmap_d r)
theorem mk_end {J : Jx} {C : Addr} {M : Ms} {F1 : Wd} {Z : Hp} {H1 : Hp} {Q : VK} {x dx : Addr} (m1 : Mem J.K F1 M Z H1) (hq : ∀ v F' H' e M', Same F1 F' → Mem J.K F' M' Z H' → RE J.K F' v e → P e M' → Q v H') {F' : Wd} {H' : Hp} {e : Ent} {M' : Ms} {v : V}
    (s' : Same ⟨F1.F, F1.ι ++ [x]⟩ F') (m' : Mem J.K F' M' Z H') (r' : RE J.K F' v e) (p : MkEnd M C P e M') : v = .non ∧ Q (.ref x) H' := by
  obtain ⟨rfl, p⟩ := p
  cases r'
  refine ⟨rfl, ?_⟩
  have sx : Same F1 F' := (same_push F1 x).trans s'
  have ex : F'.ι[M.length]? = some x := s'.at_ (snoc_at m1.len)
  rcases p with ⟨fs, hm, hf, p⟩ | p
  · obtain ⟨a, dx', vs, h0, _, ea, rs⟩ := m'.ins hm
    rw [ex] at h0
    cases h0
    obtain ⟨s2, m2⟩ := m'.freeze hm ex ea
    have hl := at_lt hm
    have ok : OkS (List.range M.length) (M'.set M.length none) := by
      refine okS_range (by rw [List.length_set]; omega) ?_
      rw [List.take_set_of_le (by omega)]
      exact hf
    have m3 := m2.sel0 ok
    have e3 : selM (List.range M.length) (M'.set M.length none) = M'.take M.length := by
      rw [selM_range (by rw [List.length_set]; omega) (by rw [List.take_set_of_le (by omega)]; exact hf), List.take_set_of_le (by omega)]
    have sw := range_pre (sx.trans s2) m2 []
    rw [List.append_nil, m1.len] at sw
    rw [e3] at m3
    refine hq (.ref x) _ H' (.d (ob C fs)) (M'.take M.length) sw m3 ?_ p
    exact rp_mk (dx := dx') (vs := vs) upd_same (Paired.mapP (lmap_d rs) fun _ _ z => ⟨z.1, Rp.monoF (F := F') (F' := selW (List.range M.length) ⟨upd F'.F x (.ins C dx' vs), F'.ι⟩) s2.F z.2⟩)
  · exact hq (.ref x) F' H' (.r M.length) M' sx m' ⟨x, ex, rfl⟩ p
theorem mk_start {J : Jx} {C : Addr} {M : Ms} {F1 : Wd} {Z H1 : Hp} {x dx : Addr} (m1 : Mem J.K F1 M Z H1) (nx : H1 x = none) (ndx : H1 dx = none) (ne : dx ≠ x) : Mem J.K ⟨F1.F, F1.ι ++ [x]⟩ (M ++ [some (.ins C [])]) Z (upd (upd H1 dx (.own x)) x (.ins C dx [])) := by
  have mj := m1.junk (o := .own x) ndx
  exact (mj.newM (o := .ins C dx []) (m := .ins C []) (by rw [upd_ne (fun z => ne z.symm)]; exact nx) ⟨dx, [], rfl, .nil⟩).2.1
theorem w_mkN {E : L2.St → XK} {X : Ga → Xa} {C : Addr} (l : Lets J E X) (hd : CVs cvs ces) (h : WA J t Γ M fun es M1 => WA J tk Γ M1 fun zs M2 => es.length = n ∧ zs.length = m ∧ Fr c (perm ix ((.r M2.length :: es) ++ (ces ++ zs))) (M2 ++ [some (.ins C [])]) (MkEnd M2 C P) (X Γ)) : Wx J (tMkN C n m (spA J.K c) cvs ix E t tk) Γ M P := fun F Z σ H en mm xr Q q =>
  h F Z σ H en mm xr _ fun vs F1 H1 es M1 s1 m1 r1 h1 => h1 F1 Z σ H1 (en.mono s1) m1 (xr.mono s1) _ fun zs F2 H2 fs M2 s2 m2 r2 ⟨l1, l2, h2⟩ =>
    ⟨r1.length.trans l1, r2.length.trans l2, fun x dx nx ndx ne => by
      have ms := mk_start (C := C) m2 nx ndx ne
      have sp := same_push F2 x
      refine fr_sp (J := J) (E := E σ) (F := ⟨F2.F, F2.ι ++ [x]⟩) h2 (perm_paired (paired_append (.cons ⟨x, snoc_at m2.len, rfl⟩ (r1.mono (s2.trans sp))) (paired_append (hd _ _) (r2.mono sp))) ix) ms (l.xr (xr.mono ((s1.trans s2).trans sp)) (en.mono ((s1.trans s2).trans sp))) fun v F' H' e M' s' m' r p => ?_
      exact mk_end (dx := dx) m2 (fun v F' H' e M' s m r p => q v F' H' e M' ((s1.trans s2).trans s) m r p) s' m' r p⟩
end
section
variable {X : Cx} {CX : CXT} {n : Nat} {ks : List Str} {E : L2.St → XK} {mn : Str} {pos apos : Pos} {e o : Expr} {es : List Expr} {kws : List Keyword} {ta : TE} {t tk : TA} {as : List MA}
/-- what a method's call leans on -/
def MAok (X : Cx) (CX : CXT) (mn : Str) (n : Nat) (ks : List Str) (y : MA) : Prop := ∃ (k : Nat) (f : Addr) (fd : FuncData) (ps : List Str), Cls X.K y.C ∧ Meth X.K y.C mn f ∧ FnOk X.prog X.w X.K X.mg X.base CX k f fd ps (spA X.K y.c) ∧ Room k X.A ∧ KBp X.K fd ps (n + 1) ks y.cvs y.ix
theorem pe_meA {pl : Sem Bool} (he : PE X o ta) (hy : ∀ y ∈ as, MAok X CX mn n ks y) (hx : ∀ σ, PassesAt CX X σ (E σ)) (ha : PA X (e :: es) t) (hkw : PK X kws tk)
    (hall : (backToKw pos (keywordEach kws X.env)).all (·.1.isSome) = true := by rfl) (hks : (backToKw pos (keywordEach kws X.env)).filterMap (·.1) = ks := by rfl)
    (hst : starEach (e :: es) X.env = (false, eval e X.env) :: starEach es X.env := by rfl) (hpl : ((backTo pos (starEach (e :: es) X.env)).any (·.1) || (backToKw pos (keywordEach kws X.env)).any (·.1.isNone)) = false := by rfl)
    (ht : eval (.Call (.Attribute o mn apos) (e :: es) kws pos) X.env = (do
      let ov ← eval o X.env
      standAt apos.atName
      let (f, first) ← holding [ov] (getMethod ov mn pl)
      callWith pos f first (backTo pos (starEach (e :: es) X.env)) (backToKw pos (keywordEach kws X.env))) := by rfl) :
    PE X (.Call (.Attribute o mn apos) (e :: es) kws pos) (tMeA X.K mn n ks.length as E ta t tk) := by
  refine ⟨fun pins s σ H Q I h => ?_⟩
  refine PySem.W.methodCall_KW (pl := pl) (thn (he.run pins s σ H _ I h) fun u s1 ⟨x, H1, I1, rx, a, C, dx, fs, ex, ea, l, y, hm, ec, q⟩ => ?_) ht
  subst ex
  obtain ⟨k, f, fd, ps, c, m, F, hr, cs, hb⟩ := hy y hm
  rw [ec] at c m
  obtain rfl : u = Value.ref a := rx
  refine getmeth_ok I1 ea c m l ?_
  refine PySem.W.callWith_KW (first := [.ref a]) (h₀ := X.base) I.ok.mod.kin m.kp hall (thn (ha.run pos pins s1 σ H1 _ I1 q) fun us s2 ⟨vs, H2, I2, r, q2⟩ => ?_) hpl hst
  refine thn (hkw.run pos pins s2 σ H2 _ I2 q2) fun ws s3 ⟨zs, H3, I3, rz, l1, l2, q3⟩ => ⟨I3.kIn, ?_⟩
  rw [hks]
  exact run_fnS (us := .ref a :: us) (vs := .ref a :: vs) F hr hb (hx σ) I3 (.cons rfl r) rz (congrArg Nat.succ l1) l2 q3
theorem pe_meA0 {pl : Sem Bool} (he : PE X o ta) (hy : ∀ y ∈ as, MAok X CX mn 0 ks y) (hx : ∀ σ, PassesAt CX X σ (E σ)) (hkw : PK X kws tk)
    (hall : (backToKw pos (keywordEach kws X.env)).all (·.1.isSome) = true := by rfl) (hks : (backToKw pos (keywordEach kws X.env)).filterMap (·.1) = ks := by rfl)
    (hpl : ((backTo pos (starEach [] X.env)).any (·.1) || (backToKw pos (keywordEach kws X.env)).any (·.1.isNone)) = false := by rfl)
    (ht : eval (.Call (.Attribute o mn apos) [] kws pos) X.env = (do
      let ov ← eval o X.env
      standAt apos.atName
      let (f, first) ← holding [ov] (getMethod ov mn pl)
      callWith pos f first (backTo pos (starEach [] X.env)) (backToKw pos (keywordEach kws X.env))) := by rfl) :
    PE X (.Call (.Attribute o mn apos) [] kws pos) (tMeA X.K mn 0 ks.length as E ta tNil tk) := by
  refine ⟨fun pins s σ H Q I h => ?_⟩
  refine PySem.W.methodCall_KW (pl := pl) (thn (he.run pins s σ H _ I h) fun u s1 ⟨x, H1, I1, rx, a, C, dx, fs, ex, ea, l, y, hm, ec, q⟩ => ?_) ht
  subst ex
  obtain ⟨k, f, fd, ps, c, m, F, hr, cs, hb⟩ := hy y hm
  rw [ec] at c m
  obtain rfl : u = Value.ref a := rx
  refine getmeth_ok I1 ea c m l ?_
  refine PySem.W.callWith_KW0 (first := [.ref a]) (h₀ := X.base) I.ok.mod.kin m.kp hall ?_ hpl
  refine thn (hkw.run pos pins s1 σ H1 _ I1 q) fun ws s3 ⟨zs, H3, I3, rz, l1, l2, q3⟩ => ⟨I3.kIn, ?_⟩
  rw [hks]
  exact run_fnS (us := [.ref a]) (vs := [.ref a]) F hr hb (hx σ) I3 (.cons rfl .nil) rz rfl l2 q3
end
end Z
set_option Elab.async false
set_option linter.all false
set_option maxRecDepth 100000
set_option maxHeartbeats 4000000
namespace Z
open PySem PySem.Spec L2
section
variable {X : Cx}
def rMulS : R2 := fun x y H Q => ∃ i n, x = .str i ∧ y = .int n ∧ MulOk i n ∧ Q (.str (Txt.mul i n)) H
theorem op_mul_str : OpR X (binaryOp .Mult) rMulS := by
  intro pins s σ H x y v u Q I rx ry h
  obtain ⟨i, n, rfl, rfl, hk, q⟩ := h
  obtain ⟨t, rfl⟩ := rx
  obtain ⟨t2, rfl⟩ := ry
  exact PySem.SB.mul hk fun t' k => ⟨.str _, H, I.tok _, ⟨_, rfl⟩, q⟩
abbrev rMulI : R2 := rI CMul fun i j => .int (i * j)
abbrev rMulU : R2 := rOr rMulI rMulS
theorem op_mulU : OpR X (binaryOp .Mult) rMulU := op_or2 op_mul op_mul_str
abbrev rIsiU (K : PySem.W.Frag) : List V → Hp → VK → Prop := rOrN (rIsi K) (rIsiT K)
theorem call_isiU : CallR X (.builtin "isinstance") (rIsiU X.K) := call_or call_isi call_isiT
end
section
variable {J : Jx} {Γ : Ga} {M : Ms} {P : Ent → Ms → Prop}
theorem o_mulI {i j : Int} (hc : CMul i j) (p : P (.d (.int (i * j))) M) : O2 J rMulU (.d (.int i)) (.d (.int j)) M P := o_l (o_mul hc p)
theorem mul_small {s : Str} {n : Int} (h : s.length ≤ 1000) (h0 : -1000 ≤ n) (h1 : n ≤ 1000) : MulOk s n := by
  have e : (2 : Int) ^ 63 = 9223372036854775808 := by decide
  refine ⟨?_, ?_, ?_⟩
  · rw [Bool.or_eq_false_iff]
    constructor
    · rw [decide_eq_false_iff_not, e]
      omega
    · rw [decide_eq_false_iff_not, e]
      omega
  · intro h2 _
    rw [e]
    have h3 : (1000 : Int) ≤ (9223372036854775808 - 1) / n := Int.le_ediv_of_mul_le (by omega) (by omega)
    omega
  · intro _ _
    have e2 : sizeLine = 16777216 := rfl
    have h4 : s.length * n.toNat ≤ 1000 * 1000 := Nat.mul_le_mul h (by omega)
    show decide (s.length * n.toNat > sizeLine) = false
    rw [decide_eq_false_iff_not, e2]
    omega
theorem o_mulS {s : Str} {n : Int} (hc : MulOk s n) (p : P (.d (.str (Txt.mul s n))) M) : O2 J rMulU (.d (.str s)) (.d (.int n)) M P := o_r fun F Z H v u m xr r1 r2 Q q => by
  cases r1
  cases r2
  exact ⟨s, n, rfl, rfl, hc, q _ F H (.d (.str _)) M (Same.refl F) m (Rp.str _) p⟩
/-! isinstance with built-in types -/
def tyN : PyData → String
  | .none => "NoneType"
  | .bool _ => "bool"
  | .int _ => "int"
  | .str _ => "str"
  | .list _ => "list"
  | .tuple _ => "tuple"
  | .dict _ => "object"
def isB : PyData → String → Bool
  | .bool _, "int" => true
  | d, n => decide (tyN d = n)
theorem tyX_of {K : PySem.W.Frag} {F : Wd} {Z H : Hp} {v : V} {e : Ent} {d : PyData} (m : Mem K F M Z H) (r : RE K F v e) (hv : DV M e d) (hd : noObj d = true) : TyX K H v (.type (tyN d)) := by
  cases hv with
  | d =>
    cases r with
    | non => exact .base .non
    | bl b => exact .base (.bl b)
    | int b => exact .base (.int b)
    | str b => exact .base (.str b)
    | lst e _ => exact .base (.lst (m.sub _ _ e))
    | tup e _ =>
      rcases e with (e | ⟨o, e⟩) | ⟨o, its, n, e, c, _⟩
      · exact .base (.tup (m.sub _ _ e))
      · exact .fTuple (m.sub _ _ e)
      · exact .kTuple e c
    | obj _ _ => exact absurd hd Bool.false_ne_true
  | w =>
    obtain ⟨a, vs, rfl, e, rs⟩ := r
    rcases m.sub.seq e with (e | ⟨o, e⟩) | ⟨o, its, n, e, c, _⟩
    · exact .base (.lst e)
    · exact .base (.frz e)
    · exact .kList e c
  | r h =>
    obtain ⟨b, eb, rfl⟩ := r
    obtain ⟨a, vs, h0, _, h1, h2⟩ := m.lst h
    rw [eb] at h0
    cases h0
    exact .base (.lst h1)
theorem kit_isB {K : PySem.W.Frag} (d : PyData) (hd : noObj d = true) : (PySem.W.kitOne K (.type (tyN d)) (.type "int") = some (isB d "int") ∧ PySem.W.kitOne K (.type (tyN d)) (.type "bool") = some (isB d "bool") ∧ PySem.W.kitOne K (.type (tyN d)) (.type "str") = some (isB d "str") ∧
    PySem.W.kitOne K (.type (tyN d)) (.type "list") = some (isB d "list")) ∧ PySem.W.kitOne K (.type (tyN d)) (.type "tuple") = some (isB d "tuple") := by
  cases d with
  | dict _ => exact absurd hd Bool.false_ne_true
  | none => exact ⟨⟨kit_ty (by decide +kernel), kit_ty (by decide +kernel), kit_ty (by decide +kernel), kit_ty (by decide +kernel)⟩, kit_ty (by decide +kernel)⟩
  | bool _ => exact ⟨⟨kit_ty (a := "bool") (r := true) (by decide +kernel), kit_ty (a := "bool") (r := true) (by decide +kernel), kit_ty (a := "bool") (r := false) (by decide +kernel), kit_ty (a := "bool") (r := false) (by decide +kernel)⟩, kit_ty (a := "bool") (r := false) (by decide +kernel)⟩
  | int _ => exact ⟨⟨kit_ty (a := "int") (r := true) (by decide +kernel), kit_ty (a := "int") (r := false) (by decide +kernel), kit_ty (a := "int") (r := false) (by decide +kernel), kit_ty (a := "int") (r := false) (by decide +kernel)⟩, kit_ty (a := "int") (r := false) (by decide +kernel)⟩
  | str _ => exact ⟨⟨kit_ty (a := "str") (r := false) (by decide +kernel), kit_ty (a := "str") (r := false) (by decide +kernel), kit_ty (a := "str") (r := true) (by decide +kernel), kit_ty (a := "str") (r := false) (by decide +kernel)⟩, kit_ty (a := "str") (r := false) (by decide +kernel)⟩
  | list _ => exact ⟨⟨kit_ty (a := "list") (r := false) (by decide +kernel), kit_ty (a := "list") (r := false) (by decide +kernel), kit_ty (a := "list") (r := false) (by decide +kernel), kit_ty (a := "list") (r := true) (by decide +kernel)⟩, kit_ty (a := "list") (r := false) (by decide +kernel)⟩
  | tuple _ => exact ⟨⟨kit_ty (a := "tuple") (r := false) (by decide +kernel), kit_ty (a := "tuple") (r := false) (by decide +kernel), kit_ty (a := "tuple") (r := false) (by decide +kernel), kit_ty (a := "tuple") (r := false) (by decide +kernel)⟩, kit_ty (a := "tuple") (r := true) (by decide +kernel)⟩
theorem kit_all {K : PySem.W.Frag} {d : PyData} {n : String} {b : Bool} (hd : noObj d = true) (hn : n = "int" ∨ n = "bool" ∨ n = "str" ∨ n = "list" ∨ n = "tuple") (he : isB d n = b) : PySem.W.kitOne K (.type (tyN d)) (.type n) = some b := by
  have k := kit_isB (K := K) d hd
  have kk : PySem.W.kitOne K (.type (tyN d)) (.type n) = some (isB d n) := by
    rcases hn with h | h | h | h | h <;> subst h
    · exact k.1.1
    · exact k.1.2.1
    · exact k.1.2.2.1
    · exact k.1.2.2.2
    · exact k.2
  rw [← he]
  exact kk
theorem n_isi {e : Ent} {d : PyData} {n : String} {b : Bool} (hv : DV M e d) (hd : noObj d = true) (hn : n = "int" ∨ n = "bool" ∨ n = "str" ∨ n = "list" ∨ n = "tuple") (he : isB d n = b) (p : P (.d (.bool b)) M) : ON J (rIsiU J.K) [e, .t n] M P := n_l fun F Z H vs m xr r1 Q q => by
  cases r1 with
  | cons r0 rt =>
    cases rt with
    | cons r2 rt =>
      cases rt
      cases r2
      exact ⟨_, _, _, _, _, rfl, .ty n, tyX_of m r0 hv hd, kit_all hd hn he, q _ F H (.d (.bool _)) M (Same.refl F) m (Rp.bl _) p⟩
/-- what isinstance asks of an own class -/
def clsB (K : PySem.W.Frag) (C : Addr) : Bool := PySem.W.plainGet K C Str.empty && (PySem.W.hasDictIn K C && (PySem.W.plainOver K C && (He.eqO (PySem.W.findIn K (.ref C) "__setattr__") (some (some (.builtin "object.__setattr__"))) && (He.eqO (PySem.W.findIn K (.ref C) "__class__") (some (some (.builtin "object.__class__"))) &&
  (He.eqO (PySem.W.specialIn K (.builtin "object.__class__") "__get__") (some (some (.builtin "getset_descriptor.__get__"))) && (decide (PySem.W.takesIn K (.builtin "object.__class__") = some true) && decide (PySem.W.mroIn K C (.type "object") = some true)))))))
theorem clsB_ok {K : PySem.W.Frag} {C : Addr} (h : clsB K C = true) : Cls K C ∧ PySem.W.findIn K (.ref C) "__class__" = some (some (.builtin "object.__class__")) ∧ PySem.W.specialIn K (.builtin "object.__class__") "__get__" = some (some (.builtin "getset_descriptor.__get__")) ∧
    PySem.W.takesIn K (.builtin "object.__class__") = some true ∧ PySem.W.mroIn K C (.type "object") = some true := by
  obtain ⟨h1, h⟩ := He.ba h
  obtain ⟨h2, h⟩ := He.ba h
  obtain ⟨h3, h⟩ := He.ba h
  obtain ⟨h4, h⟩ := He.ba h
  obtain ⟨h5, h⟩ := He.ba h
  obtain ⟨h6, h⟩ := He.ba h
  obtain ⟨h7, h8⟩ := He.ba h
  exact ⟨⟨h1, h2, h3, He.eqO_ok h4⟩, He.eqO_ok h5, He.eqO_ok h6, of_decide_eq_true h7, of_decide_eq_true h8⟩
theorem n_isiO {e : Ent} {C D : Addr} {fs : List (Str × Ent)} {b : Bool} (hv : OV M e C fs) (hc : clsB J.K C = true) (hk : PySem.W.kitOne J.K (.ref C) (.ref D) = some b) (hD : ∀ u, RelV (.ref D) u → ClsV (.ref D) u) (p : P (.d (.bool b)) M) : ON J (rIsiU J.K) [e, .g D] M P := n_l fun F Z H vs m xr r1 Q q => by
  cases r1 with
  | cons r0 rt =>
    cases rt with
    | cons r2 rt =>
      cases rt
      have e2 : _ = V.ref D := r2
      subst e2
      obtain ⟨a, dx, us, rfl, ea, _⟩ := ov_ok m r0 hv
      obtain ⟨c1, c2, c3, c4, c5⟩ := clsB_ok hc
      exact ⟨_, _, _, _, _, rfl, hD _ rfl, .base (.ins ea c1 c2 c3 c4 c5), hk, q _ F H (.d (.bool _)) M (Same.refl F) m (Rp.bl _) p⟩
end
/-! ## rules with the written part told -/
section
variable {X : Cx} {K : PySem.W.Frag} {a b c e o : Expr} {ta tb tc te to : TE} {es rest : List Expr} {t : TA} {pos apos cpos : Pos} {tg l : Expr}
theorem kAdd (h : X.K = K) : OpR X (binaryOp .Add) (rAddU K) := h ▸ op_addU
theorem kEq (h : X.K = K) (hu : X.A.units + 64 < cLine) : OpR X (compareOp .Eq) (rEqU K) := h ▸ op_eqU hu
theorem kNe (h : X.K = K) (hu : X.A.units + 64 < cLine) : OpR X (compareOp .NotEq) (rNeU K) := h ▸ op_neU hu
theorem kIn (h : X.K = K) : OpR X (compareOp .In) (rInU K) := h ▸ op_inU
theorem kNotIn (h : X.K = K) : OpR X (compareOp .NotIn) (rNotInU K) := h ▸ op_notInU
theorem kIx (h : X.K = K) : IxR X (rIx K) := h ▸ ix_seq
theorem kSl (h : X.K = K) : SlR X (rSlU K) := h ▸ sl_U
theorem kLen (h : X.K = K) : CallR X (.builtin "len") (rLenU K) := h ▸ call_len
theorem kSum (h : X.K = K) (hc : X.calm = true) : CallR X (.builtin "sum") (rSum K) := h ▸ cr_sum hc
theorem kAll (h : X.K = K) (hc : X.calm = true) : CallR X (.builtin "all") (rAll K) := h ▸ cr_all hc
theorem kAny (h : X.K = K) (hc : X.calm = true) : CallR X (.builtin "any") (rAny K) := h ▸ cr_any hc
theorem kList (h : X.K = K) : CallR X (.type "list") (rListU K) := h ▸ call_list_of
theorem kIsi (h : X.K = K) : CallR X (.builtin "isinstance") (rIsiU K) := h ▸ call_isiU
abbrev rJoin (K : PySem.W.Frag) : V → List V → Hp → VK → Prop := fun x xs H Q => ∃ a p, ∃ ys : List Str, x = .str a ∧ xs = [.ref p] ∧ (SqL K H p (ys.map V.str) ∨ SqT K H p (ys.map V.str)) ∧ (ys.map (·.length)).sum + ys.length * a.length ≤ 16777216 ∧ Q (.str (Txt.join a ys)) H
theorem kJoin (h : X.K = K) : MtR X "str.join" (rJoin K) := h ▸ mt_join
theorem ke_and (h : X.K = K) (ha : PE X a ta) (hb : PE X (.BoolOp .And (b :: rest) pos) tb) : PE X (.BoolOp .And (a :: b :: rest) pos) (tAndT K ta tb) := h ▸ pe_andT ha hb
theorem ke_or (h : X.K = K) (ha : PE X a ta) (hb : PE X (.BoolOp .Or (b :: rest) pos) tb) : PE X (.BoolOp .Or (a :: b :: rest) pos) (tOrT K ta tb) := h ▸ pe_orT ha hb
theorem ke_not (h : X.K = K) (ha : PE X a ta) : PE X (.UnaryOp .Not a pos) (tNotT K ta) := h ▸ pe_notT ha
theorem kt_tru (h : X.K = K) (ha : PE X a ta) (he : ∀ whole, isTrue a X.env whole = (do let v ← whole; standAt a.pos; holding [v] (truthy v))) : PT X a (tTru K ta) := h ▸ pt_truth ha he
variable {te : TE}
theorem ki_list (h : X.K = K) (hl : PE X l ta) : PI X tg l (iList K ta) := h ▸ pi_list hl
theorem ki_tup (h : X.K = K) (hl : PE X l ta) : PI X tg l (iTup K ta) := h ▸ pi_tup hl
end
/-! ## defs by their names -/
/-- a def of the module, all of its parameters given by place -/
structure Ca (P : Program) (w : World) (K : PySem.W.Frag) (mg : Str → Option Value) (base : Heap) (cx : CXT) (x : Str) (st : Stmt) (k : Nat) (ps : List Str) (c : ASp) : Prop where
  ex : ∃ fd : FuncData, FnOk P w K mg base cx k (He.ga K x) fd ps (spA K c) ∧ FunD K x x (defArgs st) (defBody st) (defScope st) [] [] (He.ga K x) fd ∧ Binds K fd ps []
  gl : mg x = some (.ref (He.ga K x))
/-- any def -/
structure Cd (P : Program) (w : World) (K : PySem.W.Frag) (mg : Str → Option Value) (base : Heap) (cx : CXT) (at_ : Str × Option Str) (x qual : Str) (st : Stmt) (dvs : List V) (kws : List (Str × V)) (k : Nat) (ps : List Str) (c : ASp) : Prop where
  ex : ∃ fd : FuncData, FnOk P w K mg base cx k (He.fAd K at_) fd ps (spA K c) ∧ FunD K x qual (defArgs st) (defBody st) (defScope st) dvs kws (He.fAd K at_) fd
section
variable {X : Cx} {K : PySem.W.Frag} {cx : CXT} {k j : Nat} {ps : List Str} {c : ASp} {x : Str} {st : Stmt} {p pos : Pos} {e : Expr} {es : List Expr} {kws : List Keyword} {t tk : TA} {E : L2.St → XK}
theorem ke_ca (h : X.K = K) (C : Ca X.prog X.w K X.mg X.base cx x st k ps c) (hr : Room j X.A) (hk : k ≤ j) (hg : Gl X x) (hx : ∀ σ, PassesAt cx X σ (E σ)) (ha : PA X (e :: es) t)
    (hdb : (x == ("__debug__" : Str)) = false := by decide) (he : starEach (e :: es) X.env = (false, eval e X.env) :: starEach es X.env := by rfl) (hpl : (backTo pos (starEach es X.env)).any (·.1) = false := by rfl) :
    PE X (.Call (.Name x p) (e :: es) [] pos) (tCallSD (spA K c) [] E t) := by
  subst h
  obtain ⟨fd, F, fu, b⟩ := C.ex
  exact pe_callSD F (hr.mono hk) hg C.gl fu.kp b .nil hx ha hdb he hpl
theorem ke_ca0 (h : X.K = K) (C : Ca X.prog X.w K X.mg X.base cx x st k ps c) (hr : Room j X.A) (hk : k ≤ j) (hg : Gl X x) (hx : ∀ σ, PassesAt cx X σ (E σ))
    (hdb : (x == ("__debug__" : Str)) = false := by decide) : PE X (.Call (.Name x p) [] [] pos) (tCallSD (spA K c) [] E tNil) := by
  subst h
  obtain ⟨fd, F, fu, b⟩ := C.ex
  exact pe_call0S F (hr.mono hk) hg C.gl fu.kp b hx hdb
/-- with keywords: n places, then ks; ix: where each parameter's value is found -/
theorem ke_caK (h : X.K = K) (C : Ca X.prog X.w K X.mg X.base cx x st k ps c) (n : Nat) (ks : List Str) (ix : List Nat) (hr : Room j X.A) (hk : k ≤ j) (hg : Gl X x) (hx : ∀ σ, PassesAt cx X σ (E σ))
    (hb : ∀ (kV doc pm : Value) (an : Option Addr) (cdv ct : Value) (us ws : List Value), us.length = n → ws.length = ks.length → bindArgs (PySem.W.fnOf x x (defArgs st) (defBody st) (defScope st) .none kV doc pm an cdv ct) ⟨us, ks.zip ws⟩ = pure (ps.zip (perm ix (us ++ ws))))
    (ha : PA X (e :: es) t) (hkw : PK X kws tk) (hall : (backToKw pos (keywordEach kws X.env)).all (·.1.isSome) = true := by rfl) (hks : (backToKw pos (keywordEach kws X.env)).filterMap (·.1) = ks := by rfl)
    (hdb : (x == ("__debug__" : Str)) = false := by decide) (he : starEach (e :: es) X.env = (false, eval e X.env) :: starEach es X.env := by rfl)
    (hpl : ((backTo pos (starEach (e :: es) X.env)).any (·.1) || (backToKw pos (keywordEach kws X.env)).any (·.1.isNone)) = false := by rfl) :
    PE X (.Call (.Name x p) (e :: es) kws pos) (tCaN n ks.length (spA K c) [] ix E t tk) := by
  subst h
  obtain ⟨fd, F, fu, b⟩ := C.ex
  exact pe_caN F (hr.mono hk) hg C.gl fu.kp (kbp00 fu n ks ix hb) hx ha hkw hall hks hdb he hpl
theorem ke_caK0 (h : X.K = K) (C : Ca X.prog X.w K X.mg X.base cx x st k ps c) (ks : List Str) (ix : List Nat) (hr : Room j X.A) (hk : k ≤ j) (hg : Gl X x) (hx : ∀ σ, PassesAt cx X σ (E σ))
    (hb : ∀ (kV doc pm : Value) (an : Option Addr) (cdv ct : Value) (us ws : List Value), us.length = 0 → ws.length = ks.length → bindArgs (PySem.W.fnOf x x (defArgs st) (defBody st) (defScope st) .none kV doc pm an cdv ct) ⟨us, ks.zip ws⟩ = pure (ps.zip (perm ix (us ++ ws))))
    (hkw : PK X kws tk) (hall : (backToKw pos (keywordEach kws X.env)).all (·.1.isSome) = true := by rfl) (hks : (backToKw pos (keywordEach kws X.env)).filterMap (·.1) = ks := by rfl)
    (hdb : (x == ("__debug__" : Str)) = false := by decide) (hpl : ((backTo pos (starEach [] X.env)).any (·.1) || (backToKw pos (keywordEach kws X.env)).any (·.1.isNone)) = false := by rfl) :
    PE X (.Call (.Name x p) [] kws pos) (tCaN 0 ks.length (spA K c) [] ix E tNil tk) := by
  subst h
  obtain ⟨fd, F, fu, b⟩ := C.ex
  exact pe_caN0 F (hr.mono hk) hg C.gl fu.kp (kbp00 fu 0 ks ix hb) hx hkw hall hks hdb hpl
end
/-- a def of the module without defaults -/
def dd (x : Str) (st : Stmt) : DefQ := ⟨⟨(x, none), x, x, defArgs st, defBody st, defScope st, [], []⟩, none, false⟩
section
variable {fs : List Fct} {fn : List DefQ} {K : PySem.W.Frag} {mg : Str → Option Value} {P : Program} {w : World} {base : Heap}
theorem ca_of {cx : CXT} {x : Str} {st : Stmt} {k : Nat} {ps : List Str} {c : ASp} (T : Top fs fn K mg) (i j : Nat) (hi : fn[i]? = some (dd x st)) (hj : fs[j]? = some (fGlo x))
    (hb : ∀ (kV doc pm : Value) (an : Option Addr) (cdv ct : Value) (us : List Value), us.length = ps.length → bindArgs (PySem.W.fnOf x x (defArgs st) (defBody st) (defScope st) .none kV doc pm an cdv ct) ⟨us, []⟩ = pure (ps.zip us))
    (ok : ∀ fd, FunD K x x (defArgs st) (defBody st) (defScope st) [] [] (He.ga K x) fd → FnOk P w K mg base cx k (He.ga K x) fd ps (spA K c)) : Ca P w K mg base cx x st k ps c := by
  obtain ⟨fd, F⟩ := T.def_ i hi rfl
  have F' : FunD K x x (defArgs st) (defBody st) (defScope st) [] [] (He.ga K x) fd := F
  exact ⟨⟨fd, ok fd F', F', F'.bindsN hb⟩, T.glo j hj⟩
/-- a static or class method -/
def dr (at_ : Str × Option Str) (x qual : Str) (st : Stmt) (dfl : List He.Dv) (kwd : List (Str × He.Dv)) : DefQ := ⟨⟨at_, x, qual, defArgs st, defBody st, defScope st, dfl, kwd⟩, none, true⟩
/-- a def of a class, or one with defaults -/
def dm (at_ : Str × Option Str) (x qual : Str) (st : Stmt) (dfl : List He.Dv) (kwd : List (Str × He.Dv)) (sup : Option (Str × Str)) : DefQ := ⟨⟨at_, x, qual, defArgs st, defBody st, defScope st, dfl, kwd⟩, sup, false⟩
theorem cd_of {cx : CXT} {at_ : Str × Option Str} {x qual : Str} {st : Stmt} {dfl : List He.Dv} {kwd : List (Str × He.Dv)} {k : Nat} {ps : List Str} {c : ASp} (T : Top fs fn K mg) (i : Nat) (hi : fn[i]? = some (dm at_ x qual st dfl kwd none))
    (ok : ∀ fd, FunD K x qual (defArgs st) (defBody st) (defScope st) (dfl.map (He.Dv.v K)) (kwd.map fun q => (q.1, q.2.v K)) (He.fAd K at_) fd → FnOk P w K mg base cx k (He.fAd K at_) fd ps (spA K c)) : Cd P w K mg base cx at_ x qual st (dfl.map (He.Dv.v K)) (kwd.map fun q => (q.1, q.2.v K)) k ps c := by
  obtain ⟨fd, F⟩ := T.def_ i hi rfl
  have F' : FunD K x qual (defArgs st) (defBody st) (defScope st) (dfl.map (He.Dv.v K)) (kwd.map fun q => (q.1, q.2.v K)) (He.fAd K at_) fd := F
  exact ⟨fd, ok fd F', F'⟩
end
/-! ## the law's def -/
theorem law_binds {K : PySem.W.Frag} {x : Str} {st : Stmt} {f : Addr} {fd : FuncData} {p : Str} (F : FunD K x x (defArgs st) (defBody st) (defScope st) [] [] f fd)
    (hb : ∀ (kV doc pm : Value) (an : Option Addr) (cdv ct : Value) (us : List Value), us.length = [p].length → bindArgs (PySem.W.fnOf x x (defArgs st) (defBody st) (defScope st) .none kV doc pm an cdv ct) ⟨us, []⟩ = pure ([p].zip us)) (s : Shared) (v : Value) : BindsTo s fd ⟨[v], []⟩ [(p, v)] :=
  F.bindsA hb s [v] rfl
theorem funD_eq {K : PySem.W.Frag} {x y qual qual' : Str} {pa pa' : Arguments} {b b' : List Stmt} {sc sc' : Scope} {d d' : List V} {k k' : List (Str × V)} {f : Addr} {fd fd' : FuncData} (F : FunD K x qual pa b sc d k f fd) (F' : FunD K y qual' pa' b' sc' d' k' f fd') : fd = fd' := by
  obtain ⟨oc, od, dV, kV, doc, pm, an, cdv, ct, osl, _, lk, _⟩ := F.ex
  obtain ⟨oc', od', dV', kV', doc', pm', an', cdv', ct', osl', _, lk', _⟩ := F'.ex
  rw [lk] at lk'
  have e := Option.some.inj lk'
  injection e with _ _ e3 _
  injection e3
theorem law_fn {P : Program} {w : World} {K : PySem.W.Frag} {mg : Str → Option Value} {h : Heap} {fa : Addr} {fl : List Fct} {fn : List DefQ} {st : Stmt} {k : Nat} {x : Str} {c : ASp} (hmg : mg ("law" : Str) = some (.ref fa)) (T : ∃ h : Heap, K.In h ∧ h.Ns mainGlobals mg ∧ SaysQ fl fn K)
    (hc : ∀ base : Heap, Top fl fn K mg → Ca P w K mg base CX0 "law" st k [x] c) (hb : ∀ (s : Shared) (v : Value) (fd : FuncData), FunD K "law" "law" (defArgs st) (defBody st) (defScope st) [] [] fa fd → BindsTo s fd ⟨[v], []⟩ [(x, v)]) :
    ∃ fd : FuncData, (∀ (s : Shared) (u : Value), BindsTo s fd ⟨[u], []⟩ [(x, u)]) ∧ ∀ base : Heap, K.In base → base.Ns mainGlobals mg → FnOk P w K mg base CX0 k fa fd [x] (spA K c) := by
  have C0 := hc (show Heap from T.choose) ⟨T⟩
  have e : fa = He.ga K "law" := by
    have q := C0.gl
    rw [hmg] at q
    cases q
    rfl
  subst e
  obtain ⟨fd, F, fu, b⟩ := C0.ex
  refine ⟨fd, fun s v => hb s v fd fu, fun base _ _ => ?_⟩
  obtain ⟨fd', F', fu', b'⟩ := (hc base ⟨T⟩).ex
  rw [funD_eq fu fu']
  exact F'
/-- the law's call -/
theorem law_in {K : PySem.W.Frag} {H : Hp} {a : Addr} {ns : List Int} {c : ASp} {Q : VK} {E : XK} (hS : SqL K H a (ns.map V.int)) (hQ : ∀ H', Q (.bl true) H')
    (hc : ∀ Qa X, (∀ M', Qa (.d (.bool true)) M') → c [.w (ns.map PyData.int)] [] Qa X) : spA K c [.ref a] H Q E := by
  refine ⟨⟨H, []⟩, fun _ => none, [], [.w (ns.map PyData.int)], fun e M => e = .d (.bool true), X0, .cons ⟨a, _, rfl, hS, RpAll.ofInts ns⟩ .nil, ⟨L2.Same.refl H, rfl, fun n m z => (nomatch z), fun n n' m m' a z => (nomatch z), fun _ _ z => (nomatch z)⟩, hc _ _ (fun _ => rfl), ?_, fun _ _ _ _ _ _ _ _ z _ => z.elim⟩
  intro v F' H' e M' s m r he
  subst he
  cases r
  exact hQ H'
theorem cx_K {CX : CXT} {P : Program} {w : World} {K : PySem.W.Frag} {mg : Str → Option Value} {base : Heap} {N : List Str} {qual : Str} {scope : Scope} {f : Addr} {cd : Value} {A : Around} {outer : List Env} {s : Shared} {H : Hp} {E : XK} :
    (cxOf CX P w K mg base N qual scope f cd A outer s H E).nox.K = K := rfl
theorem cx_Kx {CX : CXT} {P : Program} {w : World} {K : PySem.W.Frag} {mg : Str → Option Value} {base : Heap} {N : List Str} {qual : Str} {scope : Scope} {f : Addr} {cd : Value} {A : Around} {outer : List Env} {s : Shared} {H : Hp} {E : XK} :
    (cxOf CX P w K mg base N qual scope f cd A outer s H E).K = K := rfl
/-! ## truth of known kinds -/
section
variable {M : Ms} {R : Bool → Prop}
theorem tr_b {b : Bool} (h : R b) : ∃ k, Tru M (.d (.bool b)) k ∧ R k := ⟨b, rfl, h⟩
theorem tr_i {i : Int} (h : R (i != 0)) : ∃ k, Tru M (.d (.int i)) k ∧ R k := ⟨_, rfl, h⟩
theorem tr_n (h : R false) : ∃ k, Tru M (.d .none) k ∧ R k := ⟨_, rfl, h⟩
theorem tr_s {s : Str} (hl : s.length ≤ sizeLine) (h : R ((s.length : Int) != 0)) : ∃ k, Tru M (.d (.str s)) k ∧ R k := ⟨_, ⟨hl, rfl⟩, h⟩
theorem tr_l {xs : List PyData} (h : R (!xs.isEmpty)) : ∃ k, Tru M (.d (.list xs)) k ∧ R k := ⟨_, rfl, h⟩
theorem tr_t {xs : List PyData} (h : R (!xs.isEmpty)) : ∃ k, Tru M (.d (.tuple xs)) k ∧ R k := ⟨_, rfl, h⟩
theorem tr_w {xs : List PyData} (h : R (!xs.isEmpty)) : ∃ k, Tru M (.w xs) k ∧ R k := ⟨_, rfl, h⟩
theorem tr_r {n : Nat} {xs : List PyData} (hm : M[n]? = some (some (.lst xs))) (h : R (!xs.isEmpty)) : ∃ k, Tru M (.r n) k ∧ R k := ⟨_, .inl ⟨xs, hm, rfl⟩, h⟩
theorem tr_e {n : Nat} {xs : List Ent} (hm : M[n]? = some (some (.lsE xs))) (h : R (!xs.isEmpty)) : ∃ k, Tru M (.r n) k ∧ R k := ⟨_, .inr (.inl ⟨xs, hm, rfl⟩), h⟩
end
theorem nd_rt {n : Ga → Ms → Prop} {r : Ent → Ms → Prop} {b c : Ga → Ms → Prop} {e : Ent} {M : Ms} (h : r e M) : (Nd.mk n r b c).rt e M := h
theorem nd_nx {n : Ga → Ms → Prop} {r : Ent → Ms → Prop} {b c : Ga → Ms → Prop} {Γ : Ga} {M : Ms} (h : n Γ M) : (Nd.mk n r b c).nx Γ M := h
theorem ex_ds {es : List Ent} {R : List PyData → Prop} (ds : List PyData) (h : es = ds.map Ent.d) (r : R ds) : ∃ ds, es = ds.map Ent.d ∧ R ds := ⟨ds, h, r⟩
def dsOf : List Ent → Option (List PyData)
  | [] => some []
  | .d x :: r => match dsOf r with
    | some l => some (x :: l)
    | none => none
  | _ => none
theorem dsOf_ok : ∀ {es : List Ent} {ds : List PyData}, dsOf es = some ds → es = ds.map Ent.d
  | [], ds, h => by
    cases h
    rfl
  | .d x :: r, ds, h => by
    have h' : (match dsOf r with
      | some l => some (x :: l)
      | none => none) = some ds := h
    cases e : dsOf r with
    | none =>
      rw [e] at h'
      cases h'
    | some z =>
      rw [e] at h'
      cases h'
      rw [dsOf_ok e]
      rfl
  | .r _ :: _, _, h => by cases h
  | .g _ :: _, _, h => by cases h
  | .w _ :: _, _, h => by cases h
  | .t _ :: _, _, h => by cases h
/-- the items of a display -/
theorem ex_disp {es : List Ent} {ds : List PyData} {R : List PyData → Prop} (h : dsOf es = some ds) (hl : Nat.ble ds.length 1000 = true) (r : R ds) : ∃ ds, es = ds.map Ent.d ∧ ds.length ≤ sizeLine ∧ R ds :=
  ⟨ds, dsOf_ok h, Nat.le_trans (Nat.le_of_ble_eq_true hl) (by decide), r⟩
theorem ex_sub {n : Nat} {k : Int} {ds : List PyData} {j : Nat} {d : PyData} {M : Ms} {R : Ms → Prop} (hm : M[n]? = some (some (.lst ds))) (hj : ixN ds.length k = some j) (h : R (M.set n (some (.lst (ds.set j d))))) :
    ∃ n' k' j' d', Ent.r n = .r n' ∧ Ent.d (.int k) = .d (.int k') ∧ Ent.d d = .d d' ∧ ∃ ds', M[n']? = some (some (.lst ds')) ∧ ixN ds'.length k' = some j' ∧ R (M.set n' (some (.lst (ds'.set j' d')))) := ⟨n, k, j, d, rfl, rfl, rfl, ds, hm, hj, h⟩
theorem ex_kw {es zs cs args : List Ent} {n m : Nat} {ix : List Nat} {c : ASp} {M : Ms} {P : Ent → Ms → Prop} {X : Xa} (h1 : es.length = n) (h2 : zs.length = m) (h3 : perm ix (es ++ (cs ++ zs)) = args) (h : Fr c args M P X) :
    es.length = n ∧ zs.length = m ∧ Fr c (perm ix (es ++ (cs ++ zs))) M P X := ⟨h1, h2, by rw [h3]; exact h⟩
theorem ex_s {s : Str} {A : Prop} (h : A) : (∃ t, Ent.d (.str s) = .d (.str t)) ∧ A := ⟨⟨s, rfl⟩, h⟩
theorem ty_s {s : Str} {M : Ms} {A : Prop} (h : A) : TyM M "str" (.d (.str s)) ∧ A := ⟨rfl, h⟩
theorem ty_l {xs : List PyData} {M : Ms} {A : Prop} (h : A) : TyM M "list" (.d (.list xs)) ∧ A := ⟨rfl, h⟩
theorem ty_r {n : Nat} {ds : List PyData} {M : Ms} {A : Prop} (hm : M[n]? = some (some (.lst ds))) (h : A) : TyM M "list" (.r n) ∧ A := ⟨⟨rfl, .inl ⟨ds, hm⟩⟩, h⟩
theorem ty_e {n : Nat} {es : List Ent} {M : Ms} {A : Prop} (hm : M[n]? = some (some (.lsE es))) (h : A) : TyM M "list" (.r n) ∧ A := ⟨⟨rfl, .inr ⟨es, hm⟩⟩, h⟩
theorem ex_lm {es : List Ent} {R : Prop} (h : Nat.ble es.length 1000 = true) (k : R) : es.length ≤ sizeLine ∧ R := ⟨Nat.le_trans (Nat.le_of_ble_eq_true h) (by decide), k⟩
theorem ex_rg1 {j : Int} {R : Int → Prop} (h0 : -1000000 ≤ j) (h1 : j ≤ 1000000) (h : R j) : ∃ j', [Ent.d (.int j)] = [.d (.int j')] ∧ -(2 ^ 62) ≤ j' ∧ j' < 2 ^ 62 ∧ R j' := by
  have e : (2 : Int) ^ 62 = 4611686018427387904 := by decide
  exact ⟨j, rfl, by omega, by omega, h⟩
theorem ex_rg2 {i j : Int} {R : Int → Int → Prop} (h0 : -1000000 ≤ i) (h1 : i ≤ 1000000) (h2 : -1000000 ≤ j) (h3 : j ≤ 1000000) (h : R i j) : ∃ i' j', [Ent.d (.int i), Ent.d (.int j)] = [.d (.int i'), .d (.int j')] ∧ (-(2 ^ 62) ≤ i' ∧ i' < 2 ^ 62 ∧ -(2 ^ 62) ≤ j' ∧ j' < 2 ^ 62) ∧ R i' j' := by
  have e : (2 : Int) ^ 62 = 4611686018427387904 := by decide
  exact ⟨i, j, rfl, ⟨by omega, by omega, by omega, by omega⟩, h⟩
/-- a list that was made here is handed back and stops changing -/
theorem s_retF {J : Jx} {Γ : Ga} {M : Ms} {D : Nd} {i n : Nat} {ds : List PyData} (h : Γ[i]? = some (some (.r n))) (hm : M[n]? = some (some (.lst ds))) (p : D.rt (.d (.list ds)) (M.set n none)) : Sx J (tRet (tVar i)) D Γ M := fun F Z σ H C en m x d => by
  obtain ⟨o, e1, v, e2, r⟩ := paired_get en h
  subst e2
  obtain ⟨b, eb, rfl⟩ := r
  obtain ⟨a, vs, h0, _, ea, rs⟩ := m.lst hm
  rw [eb] at h0
  cases h0
  obtain ⟨s2, m2⟩ := m.freeze hm eb ea
  exact ⟨_, e1, d.rt _ _ H _ (.d (.list ds)) s2 m2 (Rp.lst upd_same (RpAll.monoF s2.F rs)) p⟩
/-! ## comprehensions that change nothing -/
def LcfK (J : Jx) (Γ : Ga) (M : Ms) (g : TG) (tt : TT) (te : TE) (P : Ent → Ms → Prop) (vs : List Nat) {α : Type} (xs : List α) (e : α → Ent) (p : α → Bool) (f : α → PyData) (its : List Ent) (G : Ms → Prop) (M1 : Ms) : Prop := its = xs.map e ∧ M1 = M ∧ xs.length ≤ sizeLine ∧ G M ∧
      (∀ x, x ∈ xs → GT J g (e x) (wipeG Γ vs) M fun Γ2 M2 => M2 = M ∧ (∀ B : Bool → Ms → Prop, B (p x) M → WT J tt Γ2 M B) ∧ (p x = true → ∀ R : Ent → Ms → Prop, R (.d (f x)) M → Wx J te Γ2 M R)) ∧
      P (.d (.list ((xs.filter p).map f))) M
theorem w_lcf {J : Jx} {Γ : Ga} {M : Ms} {wi : TI} {g : TG} {tt : TT} {te : TE} {P : Ent → Ms → Prop} {vs : List Nat} {α : Type} (xs : List α) (e : α → Ent) (p : α → Bool) (f : α → PyData) (hw : WpOk g vs)
    (h : WI J wi Γ M fun its G M1 => LcfK J Γ M g tt te P vs xs e p f its G M1) : Wx J (tLc wi g tt te vs) Γ M P := by
  refine w_lc hw ?_
  intro F Z σ H en m x R q
  refine h F Z σ H en m x R fun I F' H' M' its G s m' aw hh => ?_
  obtain ⟨e1, e2, hl, hG, hs, hp⟩ := hh
  subst e1
  subst e2
  refine q I F' H' _ _ G s m' aw ⟨fun i ds M2 => M2 = M' ∧ ds = ((xs.take i).filter p).map f, by rw [List.length_map]; exact hl, ⟨rfl, rfl⟩, fun i ds M2 _ ⟨z, _⟩ => by rw [z]; exact hG, ?_, ?_⟩
  · rintro i ee ds M2 hi ⟨rfl, rfl⟩
    rw [List.getElem?_map] at hi
    cases ex : xs[i]? with
    | none =>
      rw [ex] at hi
      cases hi
    | some x =>
      rw [ex] at hi
      have he : ee = e x := (Option.some.inj hi).symm
      subst he
      have tk : xs.take (i + 1) = xs.take i ++ [x] := by rw [List.take_add_one, ex]; rfl
      intro F2 Z2 σ2 H2 v en2 mm2 x2 r2 Q2 q2
      refine hs x (List.mem_of_getElem? ex) F2 Z2 σ2 H2 v en2 mm2 x2 r2 Q2 fun F3 H3 σ3 Γ3 M3 s3 m3 en3 hh => ?_
      obtain ⟨rfl, ht, he⟩ := hh
      refine q2 F3 H3 σ3 Γ3 _ s3 m3 en3 (ht _ ⟨fun hb => ?_, fun hb => ?_⟩)
      · exact he hb _ ⟨_, rfl, rfl, by rw [tk, List.filter_append, List.map_append, List.filter_cons, if_pos hb]; rfl⟩
      · exact ⟨rfl, by rw [tk, List.filter_append, List.map_append, List.filter_cons, if_neg (by rw [hb]; decide)]; simp⟩
  · rintro ds M2 _ ⟨rfl, rfl⟩
    rw [List.length_map, List.take_length]
    exact hp
/-! ## ends -/
theorem q_of {Q : Ent → Ms → Prop} {e e' : Ent} {M M' : Ms} (k : Q e M) (he : e' = e) (hm : M' = M) : Q e' M' := by
  rw [he, hm]
  exact k
/-! ## texts as lists of codes -/
abbrev cs (s : Str) : List Nat := s.cps.toList
theorem len_cs (s : Str) : s.length = (cs s).length := by simp [Str.length]
theorem cs_inj {s t : Str} (h : cs s = cs t) : s = t := TL.ext_tl h
theorem cs_app (s t : Str) : cs (s ++ t) = cs s ++ cs t := TL.tl_append s t
theorem len_app (s t : Str) : (s ++ t).length = s.length + t.length := by rw [len_cs, cs_app, List.length_append, ← len_cs, ← len_cs]
theorem cs_one (c : Nat) : cs ⟨#[c]⟩ = [c] := rfl
theorem prefix_take : ∀ b a : List Nat, (decide (b.length ≤ a.length) && (a.take b.length == b)) = b.isPrefixOf a
  | [], a => by simp
  | c :: b, [] => by simp
  | c :: b, d :: a => by
    have e := prefix_take b a
    show (decide (b.length + 1 ≤ a.length + 1) && (d :: a.take b.length == c :: b)) = ((c == d) && b.isPrefixOf a)
    rw [← e]
    by_cases h : c = d
    · subst h
      simp [Nat.succ_le_succ_iff]
    · have h1 : (c == d) = false := beq_false_of_ne h
      have h2 : (d == c) = false := beq_false_of_ne fun q => h q.symm
      simp [h1, h2]
theorem startswith_cs (x y : Str) : Txt.startswith x y = (cs y).isPrefixOf (cs x) := by
  rw [← prefix_take]
  show (decide (0 + y.length ≤ x.length) && Builtin.Str.subAt x y 0) = _
  rw [PySem.StrLaws.subAt_eq, List.drop_zero, Nat.zero_add]
  simp only [len_cs]
theorem starts1 (x : Str) (c : Nat) : Txt.startswith x ⟨#[c]⟩ = decide ((cs x).head? = some c) := by
  rw [startswith_cs, cs_one]
  cases h : cs x with
  | nil => rfl
  | cons d a =>
    by_cases e : c = d
    · subst e
      simp
    · have e' : ¬ d = c := fun q => e q.symm
      show ((c == d) && true) = decide (some d = some c)
      simp [e, e']
theorem cut_to (s : Str) (k : Nat) : cs (cutS s none (some (k : Int))) = (cs s).take k := by
  show (((cs s).drop (HT.sIx s.length 0 none)).take (HT.sIx s.length s.length (some (k : Int)) - HT.sIx s.length 0 none)) = _
  rw [HT.sIx_nat]
  show ((cs s).drop 0).take (min k s.length - 0) = _
  rw [List.drop_zero, Nat.sub_zero, len_cs]
  by_cases h : k ≤ (cs s).length
  · rw [Nat.min_eq_left h]
  · rw [Nat.min_eq_right (by omega), List.take_of_length_le (Nat.le_refl _), List.take_of_length_le (by omega)]
theorem cut_from (s : Str) (k : Nat) : cs (cutS s (some (k : Int)) none) = (cs s).drop k := by
  show (((cs s).drop (HT.sIx s.length 0 (some (k : Int)))).take (s.length - HT.sIx s.length 0 (some (k : Int)))) = _
  rw [HT.sIx_nat, len_cs]
  by_cases h : k ≤ (cs s).length
  · rw [Nat.min_eq_left h, List.take_of_length_le (by simp)]
  · rw [Nat.min_eq_right (by omega), List.drop_of_length_le (Nat.le_refl _), List.drop_of_length_le (by omega)]
    simp
theorem cut_len (s : Str) (a b : Option Int) : (cutS s a b).length ≤ s.length := by
  rw [len_cs, len_cs]
  show (((cs s).drop _).take _).length ≤ _
  rw [List.length_take, List.length_drop]
  omega
theorem join_cs (sep : Str) (ys : List Str) : cs (Txt.join sep ys) = TL.joinL (cs sep) (ys.map cs) := by
  rw [TL.join_eq]
  exact TL.tl_join sep ys
theorem join0 : ∀ parts : List (List Nat), TL.joinL [] parts = parts.flatten
  | [] => rfl
  | [a] => by simp [TL.joinL]
  | a :: b :: r => by
    have e := join0 (b :: r)
    show a ++ ([] ++ TL.joinL [] (b :: r)) = a ++ (b :: r).flatten
    rw [e]
    rfl
/-- "".join of texts of one sign each -/
theorem join_len1 {sep : Str} (hs : cs sep = []) : ∀ ys : List Str, (∀ y ∈ ys, y.length = 1) → (Txt.join sep ys).length = ys.length := by
  intro ys h
  rw [len_cs, join_cs, hs, join0]
  induction ys with
  | nil => rfl
  | cons y r ih =>
    have h1 := h y (List.mem_cons_self ..)
    rw [len_cs] at h1
    rw [List.map_cons, List.flatten_cons, List.length_append, h1, ih fun z hz => h z (List.mem_cons_of_mem _ hz), List.length_cons]
    omega
theorem join_len_le (sep : Str) : ∀ (ys : List Str) (B : Nat), (∀ y ∈ ys, y.length ≤ B) → (Txt.join sep ys).length ≤ ys.length * (B + sep.length) := by
  intro ys B h
  rw [len_cs, join_cs, len_cs sep]
  generalize cs sep = p
  induction ys with
  | nil => simp [TL.joinL]
  | cons y r ih =>
    have h1 := h y (List.mem_cons_self ..)
    rw [len_cs] at h1
    have ih' := ih fun z hz => h z (List.mem_cons_of_mem _ hz)
    have e : (r.length + 1) * (B + p.length) = r.length * (B + p.length) + (B + p.length) := Nat.succ_mul _ _
    cases r with
    | nil =>
      simp only [List.map_cons, List.map_nil, TL.joinL, List.length_cons, List.length_nil] at *
      omega
    | cons z r =>
      simp only [List.map_cons, TL.joinL, List.length_append, List.length_cons] at *
      omega
theorem mul_len (s : Str) (n : Int) : (Txt.mul s n).length ≤ s.length * n.toNat := by
  unfold Txt.mul
  split
  · exact Nat.zero_le _
  · split
    · rename_i h1 h2
      rw [Bool.or_eq_true, beq_iff_eq, beq_iff_eq] at h2
      rcases h2 with h2 | h2
      · subst h2
        simp
      · rw [h2]
        exact Nat.zero_le _
    · rw [len_cs, len_cs]
      generalize n.toNat = k
      have aux : ∀ (k : Nat) (acc : Array Nat), ((List.replicate k s.cps).foldl (· ++ ·) acc).toList.length = acc.toList.length + (cs s).length * k := by
        intro k
        induction k with
        | zero => intro acc; simp
        | succ k ih =>
          intro acc
          rw [List.replicate_succ, List.foldl_cons, ih, Array.toList_append, List.length_append, Nat.mul_succ]
          show acc.toList.length + (cs s).length + (cs s).length * k = _
          omega
      rw [show cs ⟨(List.replicate k s.cps).foldl (· ++ ·) #[]⟩ = ((List.replicate k s.cps).foldl (· ++ ·) #[]).toList from rfl, aux]
      simp
theorem sum_ones : ∀ ys : List Str, (∀ y ∈ ys, y.length = 1) → (ys.map (·.length)).sum = ys.length
  | [], _ => rfl
  | y :: r, h => by
    rw [List.map_cons, List.sum_cons, h y (List.mem_cons_self ..), sum_ones r fun z hz => h z (List.mem_cons_of_mem _ hz), List.length_cons]
    omega
theorem sum_le (B : Nat) : ∀ ys : List Str, (∀ y ∈ ys, y.length ≤ B) → (ys.map (·.length)).sum ≤ ys.length * B
  | [], _ => Nat.zero_le _
  | y :: r, h => by
    have h1 := h y (List.mem_cons_self ..)
    have h2 := sum_le B r fun z hz => h z (List.mem_cons_of_mem _ hz)
    rw [List.map_cons, List.sum_cons, List.length_cons, Nat.succ_mul]
    omega
/-! ## lists of data as typed lists -/
def intsOf : List PyData → Option (List Int)
  | [] => some []
  | .int i :: r => match intsOf r with
    | some l => some (i :: l)
    | none => none
  | _ => none
theorem intsOf_ok : ∀ {ds : List PyData} {l : List Int}, intsOf ds = some l → ds = l.map PyData.int
  | [], l, h => by cases h; rfl
  | .int i :: r, l, h => by
    have h' : (match intsOf r with
      | some l => some (i :: l)
      | none => none) = some l := h
    cases e : intsOf r with
    | none => rw [e] at h'; cases h'
    | some z => rw [e] at h'; cases h'; rw [intsOf_ok e]; rfl
  | .none :: _, _, h => by cases h
  | .bool _ :: _, _, h => by cases h
  | .str _ :: _, _, h => by cases h
  | .list _ :: _, _, h => by cases h
  | .tuple _ :: _, _, h => by cases h
  | .dict _ :: _, _, h => by cases h
def strsOf : List PyData → Option (List Str)
  | [] => some []
  | .str i :: r => match strsOf r with
    | some l => some (i :: l)
    | none => none
  | _ => none
theorem strsOf_ok : ∀ {ds : List PyData} {l : List Str}, strsOf ds = some l → ds = l.map PyData.str
  | [], l, h => by cases h; rfl
  | .str i :: r, l, h => by
    have h' : (match strsOf r with
      | some l => some (i :: l)
      | none => none) = some l := h
    cases e : strsOf r with
    | none => rw [e] at h'; cases h'
    | some z => rw [e] at h'; cases h'; rw [strsOf_ok e]; rfl
  | .none :: _, _, h => by cases h
  | .bool _ :: _, _, h => by cases h
  | .int _ :: _, _, h => by cases h
  | .list _ :: _, _, h => by cases h
  | .tuple _ :: _, _, h => by cases h
  | .dict _ :: _, _, h => by cases h
theorem eqv_strs : ∀ xs ys : List Str, PyData.eqvAll (xs.map PyData.str) (ys.map PyData.str) = decide (xs = ys)
  | [], [] => rfl
  | [], _ :: _ => rfl
  | _ :: _, [] => rfl
  | x :: xs, y :: ys => by
    show (PyData.eqv (.str x) (.str y) && PyData.eqvAll (xs.map PyData.str) (ys.map PyData.str)) = _
    rw [eqv_strs xs ys]
    show ((x == y) && decide (xs = ys)) = _
    by_cases h : x = y
    · subst h
      simp
    · simp [h]
theorem noObj_strs : ∀ xs : List Str, noObjs (xs.map PyData.str) = true
  | [] => rfl
  | _ :: xs => by
    show (true && noObjs (xs.map PyData.str)) = true
    rw [noObj_strs xs]
    rfl
def okS (s : Str) : Bool := (cs s).all fun c => decide (c < 1114112)
theorem strOk_iff {s : Str} (h : okS s = true) : PyData.strOk s = true := by
  unfold PyData.strOk
  rw [← Array.all_toList]
  exact h
theorem lay_strs : ∀ xs : List Str, (∀ x ∈ xs, okS x = true) → PyData.canLayAll0 (xs.map PyData.str) = true ∧ PyData.depthAll (xs.map PyData.str) = 0
  | [], _ => ⟨rfl, rfl⟩
  | x :: xs, h => by
    obtain ⟨h1, h2⟩ := lay_strs xs fun z hz => h z (List.mem_cons_of_mem _ hz)
    refine ⟨?_, ?_⟩
    · show (PyData.strOk x && PyData.canLayAll0 (xs.map PyData.str)) = true
      rw [h1, Bool.and_true]
      exact strOk_iff (h x (List.mem_cons_self ..))
    · show max (PyData.depth (.str x)) (PyData.depthAll (xs.map PyData.str)) = 0
      rw [h2]
      rfl
theorem shaped_strs (xs : List Str) (h : ∀ x ∈ xs, okS x = true) : SeqAt.shaped (.list (xs.map PyData.str)) = true := by
  obtain ⟨h1, h2⟩ := lay_strs xs h
  show (PyData.canLayAll0 (xs.map PyData.str) && decide (PyData.depthAll (xs.map PyData.str) + 1 ≤ 64)) = true
  rw [h1, h2]
  rfl
theorem strip_mem {x y : Str} {c : Nat} (h : c ∈ cs (Txt.stripChars x y)) : c ∈ cs x := by
  unfold Txt.stripChars Txt.stripBy at h
  split at h
  · exact h
  · have h2 : c ∈ (x.cps.extract (stripLo y.cps.contains true x) (stripHi y.cps.contains true x (stripLo y.cps.contains true x))).toList := h
    rw [Array.toList_extract] at h2
    rw [List.extract_eq_take_drop] at h2
    exact List.mem_of_mem_drop (List.mem_of_mem_take h2)
theorem strip_len (x y : Str) : (Txt.stripChars x y).length ≤ x.length := by
  unfold Txt.stripChars Txt.stripBy
  split
  · exact Nat.le_refl _
  · rw [len_cs, len_cs x]
    show ((x.cps.extract _ _).toList).length ≤ _
    rw [Array.toList_extract, List.extract_eq_take_drop, List.length_take, List.length_drop]
    show _ ≤ x.cps.toList.length
    omega
theorem spl1_cons (s c : Nat) (acc r : List Nat) : TL.spl [s] 0 acc (c :: r) = if c = s then acc :: TL.spl [s] 0 [] r else TL.spl [s] 0 (acc ++ [c]) r := by
  by_cases h : c = s
  · subst h
    rw [if_pos rfl]
    exact TL.spl_hit (by simp [TL.pre])
  · rw [if_neg h]
    exact TL.spl_miss (by simp [TL.pre, h])
theorem spl1_nil (s : Nat) (acc : List Nat) : TL.spl [s] 0 acc [] = [acc] := TL.spl_nil _ _ _
theorem spl1_mem {s : Nat} : ∀ {r acc p : List Nat} {c : Nat}, p ∈ TL.spl [s] 0 acc r → c ∈ p → c ∈ acc ∨ c ∈ r
  | [], acc, p, c, hp, hc => by
    rw [spl1_nil, List.mem_singleton] at hp
    rw [hp] at hc
    exact .inl hc
  | d :: r, acc, p, c, hp, hc => by
    rw [spl1_cons] at hp
    split at hp
    · rcases List.mem_cons.mp hp with e | hp
      · rw [e] at hc
        exact .inl hc
      · rcases spl1_mem hp hc with h | h
        · cases h
        · exact .inr (List.mem_cons_of_mem _ h)
    · rcases spl1_mem hp hc with h | h
      · rcases List.mem_append.mp h with h | h
        · exact .inl h
        · rw [List.mem_singleton] at h
          rw [h]
          exact .inr (List.mem_cons_self ..)
      · exact .inr (List.mem_cons_of_mem _ h)
theorem spl1_len {s : Nat} : ∀ (r acc : List Nat), (TL.spl [s] 0 acc r).length ≤ r.length + 1
  | [], acc => by rw [spl1_nil]; exact Nat.le_refl _
  | d :: r, acc => by
    rw [spl1_cons]
    split
    · rw [List.length_cons, List.length_cons]
      have := spl1_len (s := s) r []
      omega
    · rw [List.length_cons]
      have := spl1_len (s := s) r (acc ++ [d])
      omega
theorem split1 (x : Str) (s : Nat) (hs : s < 256) : (Txt.split x ⟨#[s]⟩).map cs = TL.spl [s] 0 [] (cs x) :=
  TL.split_spl x ⟨#[s]⟩ (by simp) (TL.kind_ok (by simp [hs]))
theorem split1_eq (x : Str) (s : Nat) (hs : s < 256) : Txt.split x ⟨#[s]⟩ = (TL.spl [s] 0 [] (cs x)).map fun l => ⟨l.toArray⟩ := by
  rw [← split1 x s hs, List.map_map]
  have e : (fun y : Str => (⟨(cs y).toArray⟩ : Str)) = id := funext fun y => TL.mk_tl y
  show _ = (Txt.split x ⟨#[s]⟩).map fun y => (⟨(cs y).toArray⟩ : Str)
  rw [e, List.map_id]
theorem split1_mem {x p : Str} {s c : Nat} (hs : s < 256) (hp : p ∈ Txt.split x ⟨#[s]⟩) (hc : c ∈ cs p) : c ∈ cs x := by
  have h : cs p ∈ TL.spl [s] 0 [] (cs x) := by
    rw [← split1 x s hs]
    exact List.mem_map_of_mem hp
  rcases spl1_mem h hc with q | q
  · cases q
  · exact q
theorem split1_len {x : Str} {s : Nat} (hs : s < 256) : (Txt.split x ⟨#[s]⟩).length ≤ x.length + 1 := by
  have e := congrArg List.length (split1 x s hs)
  rw [List.length_map] at e
  rw [e, len_cs]
  exact spl1_len _ _
theorem piece_len {x : Str} {s : Nat} (hs : s < 256) {p : Str} (hp : p ∈ Txt.split x ⟨#[s]⟩) : p.length ≤ x.length := by
  have h : cs p ∈ TL.spl [s] 0 [] (cs x) := by
    rw [← split1 x s hs]
    exact List.mem_map_of_mem hp
  have aux : ∀ (r acc p : List Nat), p ∈ TL.spl [s] 0 acc r → p.length ≤ acc.length + r.length := by
    intro r
    induction r with
    | nil =>
      intro acc p hp
      rw [spl1_nil, List.mem_singleton] at hp
      rw [hp]
      exact Nat.le_add_right _ _
    | cons d r ih =>
      intro acc p hp
      rw [spl1_cons] at hp
      split at hp
      · rcases List.mem_cons.mp hp with e | hp
        · rw [e]
          exact Nat.le_add_right _ _
        · have := ih [] p hp
          rw [List.length_cons]
          simp only [List.length_nil] at this
          omega
      · have := ih _ p hp
        rw [List.length_append, List.length_singleton] at this
        rw [List.length_cons]
        omega
  have q := aux _ _ _ h
  rw [len_cs, len_cs x]
  simpa using q
section
variable {J : Jx} {M : Ms} {P : Ent → Ms → Prop}
theorem o_eqSs {x y : Ent} {xs ys : List Str} {as bs : List PyData} (dx : LD M x as) (dy : LD M y bs) (ex : as = xs.map PyData.str) (ey : bs = ys.map PyData.str) (hx : ∀ x ∈ xs, okS x = true) (hy : ∀ x ∈ ys, okS x = true) (p : P (.d (.bool (decide (xs = ys)))) M) : O2 J (rEqU J.K) x y M P := by
  subst ex
  subst ey
  have vx : DV M x (.list (xs.map PyData.str)) := by
    cases dx with
    | d => exact .d
    | w => exact .w
    | r h => exact .r h
  have vy : DV M y (.list (ys.map PyData.str)) := by
    cases dy with
    | d => exact .d
    | w => exact .w
    | r h => exact .r h
  exact o_eqL vx vy (noObj_strs xs) (noObj_strs ys) (shaped_strs xs hx) (shaped_strs ys hy) (by
    show P (.d (.bool (PyData.eqvAll (xs.map PyData.str) (ys.map PyData.str)))) M
    rw [eqv_strs]
    exact p)
end
section
variable {J : Jx} {Γ : Ga} {M : Ms} {P : Ent → Ms → Prop}
theorem m_partition {a b : Str} (hb : (b.length == 0) = false) (hl : a.length ≤ sizeLine) (p : P (.d (.tuple [.str (Txt.partition a b).1, .str (Txt.partition a b).2.1, .str (Txt.partition a b).2.2])) M) : OM J (fun x xs H Q => ∃ a b, x = .str a ∧ xs = [.str b] ∧ (b.length == 0) = false ∧ a.length ≤ sizeLine ∧
    ∀ p, H p = none → Q (.ref p) (upd H p (.tup [.str (Txt.partition a b).1, .str (Txt.partition a b).2.1, .str (Txt.partition a b).2.2]))) (.d (.str a)) [.d (.str b)] M P := fun F Z H v vs m xr r1 r2 Q q => by
  cases r1
  cases r2 with
  | cons r0 rt =>
    cases rt
    cases r0
    refine ⟨a, b, rfl, rfl, hb, hl, fun l n => ?_⟩
    obtain ⟨s3, m3⟩ := m.newF (o := .tup _) n
    exact q _ _ _ (.d (.tuple _)) M s3 m3 (Rp.tup (.inl (.inl upd_same)) (.cons (.str _) (.cons (.str _) (.cons (.str _) .nil)))) p
theorem n_str {i : Int} (h : i.natAbs.log2 < 1920) (p : P (.d (.str (Str.ofString (toString i)))) M) : ON J (fun xs H Q => ∃ i, xs = [.int i] ∧ i.natAbs.log2 < 1920 ∧ Q (.str (toString i)) H) [.d (.int i)] M P := fun F Z H vs m xr r1 Q q => by
  cases r1 with
  | cons r0 rt =>
    cases rt
    cases r0
    exact ⟨i, rfl, h, q _ F H (.d (.str _)) M (Same.refl F) m (Rp.str _) p⟩
end
theorem o_ixTs {J : Jx} {M : Ms} {P : Ent → Ms → Prop} {y : Ent} {ds : List PyData} {xs : List Str} {n : Nat} {i : Int} (hd : LD M y ds) (hx : strsOf ds = some xs) (h0 : 0 ≤ i) (h1 : i < (xs.length : Int)) (hB : ∀ s ∈ xs, s.length ≤ n) (q : ∀ s : Str, s ∈ xs → s.length ≤ n → P (.d (.str s)) M) : O2 J (rIx J.K) y (.d (.int i)) M P := by
  have e := strsOf_ok hx
  have hi : i.toNat < xs.length := by omega
  refine o_ixL (d := .str xs[i.toNat]) hd (atI_nat' h0 ?_) (q _ (List.getElem_mem hi) (hB _ (List.getElem_mem hi)))
  rw [e, List.getElem?_map, List.getElem?_eq_getElem hi]
  rfl
theorem noObj_map {α : Type} (f : α → PyData) (xs : List α) (h : ∀ x, noObj (f x) = true) : noObj (.list (xs.map f)) = true := by
  show noObjs (xs.map f) = true
  induction xs with
  | nil => rfl
  | cons x xs ih =>
    show (noObj (f x) && noObjs (xs.map f)) = true
    rw [h x, ih]
    rfl
theorem log_small {i : Int} {k : Nat} (h : i.natAbs ≤ k) (hk : k.log2 < 1920) : i.natAbs.log2 < 1920 := by
  by_cases e : i.natAbs = 0
  · rw [e]; decide
  · have h1 : i.natAbs.log2 ≤ k.log2 := by
      rw [Nat.le_log2 (by omega)]
      exact Nat.le_trans (Nat.log2_self_le e) h
    omega
theorem numL_len (k : Nat) : ∀ n : Nat, n < 10 ^ (k + 1) → (TL.numL n).length ≤ k + 1 := by
  induction k with
  | zero => intro n h; rw [TL.numL_lt (by simpa using h)]; exact Nat.le_refl _
  | succ k ih =>
    intro n h
    by_cases h1 : n < 10
    · rw [TL.numL_lt h1]
      show 1 ≤ _
      omega
    · rw [TL.numL_step (by omega), List.length_append]
      have := ih (n / 10) (by rw [Nat.pow_succ] at h; omega)
      show _ + 1 ≤ _
      omega
theorem str_nat_len {i : Int} (k : Nat) (h0 : 0 ≤ i) (h : i < ((10 ^ (k + 1) : Nat) : Int)) : (Str.ofString (toString i)).length ≤ k + 1 := by
  obtain ⟨n, rfl⟩ := Int.eq_ofNat_of_zero_le h0
  rw [len_cs]
  have e : cs (Str.ofString (toString ((n : Nat) : Int))) = TL.numL n := TL.tl_num n
  show (cs (Str.ofString (toString ((n : Nat) : Int)))).length ≤ _
  rw [e]
  exact numL_len k n (by omega)
theorem n_str7 {J : Jx} {M : Ms} {P : Ent → Ms → Prop} {i : Int} (h0 : 0 ≤ i) (h1 : i ≤ 1000000) (p : ∀ s : Str, s.length ≤ 7 → P (.d (.str s)) M) : ON J (fun xs H Q => ∃ i, xs = [.int i] ∧ i.natAbs.log2 < 1920 ∧ Q (.str (toString i)) H) [.d (.int i)] M P :=
  n_str (log_small (k := 1000000) (by omega) (by decide +kernel)) (p _ (str_nat_len 6 h0 (by omega)))
theorem o_ixSs {J : Jx} {M : Ms} {P : Ent → Ms → Prop} {s : Str} {i : Int} (hl : s.length ≤ 1000000) (h0 : 0 ≤ i) (h1 : i < (s.length : Int)) (q : ∀ c, c ∈ cs s → P (.d (.str ⟨#[c]⟩)) M) : O2 J (rIx J.K) (.d (.str s)) (.d (.int i)) M P := by
  have hi : i.toNat < (cs s).length := by rw [← len_cs]; omega
  exact o_ixS (c := (cs s)[i.toNat]) (Nat.le_trans hl (by decide)) (atI_nat' h0 (List.getElem?_eq_getElem hi)) (q _ (List.getElem_mem hi))
/-! ### the first place of a sign -/
theorem cut_at (x : Str) (c : Nat) : c ∉ cs x ∨ ∃ a b : Str, x = a ++ (⟨#[c]⟩ : Str) ++ b ∧ c ∉ cs a := by
  by_cases h : c ∈ cs x
  · obtain ⟨as, bs, e, hn⟩ := List.eq_append_cons_of_mem h
    refine .inr ⟨⟨as.toArray⟩, ⟨bs.toArray⟩, cs_inj ?_, by simpa using hn⟩
    rw [cs_app, cs_app, e, List.append_assoc]
    rfl
  · exact .inl h
theorem part_no {x : Str} {c : Nat} (h : c ∉ cs x) : Txt.partition x ⟨#[c]⟩ = (x, Str.empty, Str.empty) := TL.partition_none (s := c) (S := []) rfl h
theorem part_yes {a b : Str} {c : Nat} (h : c ∉ cs a) : Txt.partition (a ++ (⟨#[c]⟩ : Str) ++ b) ⟨#[c]⟩ = (a, ⟨#[c]⟩, b) := TL.partition_app (s := c) (S := []) rfl h
theorem find_no {x : Str} {c : Nat} (h : c ∉ cs x) : Txt.find x ⟨#[c]⟩ = -1 := by
  have e := part_no h
  unfold Txt.partition at e
  unfold Txt.find
  cases ho : Builtin.Str.occurrences x ⟨#[c]⟩ 0 x.length 1 with
  | nil => rfl
  | cons i r =>
    rw [ho] at e
    have e2 := congrArg (fun p => cs p.2.1) e
    exact absurd e2 (by intro q; cases q)
theorem find_yes {a b : Str} {c : Nat} (h : c ∉ cs a) : Txt.find (a ++ (⟨#[c]⟩ : Str) ++ b) ⟨#[c]⟩ = (a.length : Int) := by
  have e := part_yes (b := b) h
  unfold Txt.partition at e
  unfold Txt.find
  cases ho : Builtin.Str.occurrences (a ++ (⟨#[c]⟩ : Str) ++ b) ⟨#[c]⟩ 0 (a ++ (⟨#[c]⟩ : Str) ++ b).length 1 with
  | nil =>
    rw [ho] at e
    have e2 := congrArg (fun p => cs p.2.1) e
    exact absurd e2 (by intro q; cases q)
  | cons i r =>
    rw [ho] at e
    have e2 := congrArg (fun p => (cs p.1).length) e
    have e3 := congrArg (fun p => (cs p.2.2).length) e
    have l1 : (⟨#[c]⟩ : Str).length = 1 := rfl
    simp only [cs, TL.tl_strSub, List.length_take, List.length_drop] at e2 e3
    have t1 : (TL.tl (a ++ (⟨#[c]⟩ : Str) ++ b)).length = (a ++ (⟨#[c]⟩ : Str) ++ b).length := (len_cs _).symm
    have t2 : a.cps.toList.length = a.length := (len_cs a).symm
    have t3 : b.cps.toList.length = b.length := (len_cs b).symm
    rw [t1] at e2 e3
    rw [t2] at e2
    rw [t3] at e3
    rw [len_app, len_app, l1] at e2 e3
    show (i : Int) = _
    omega
end Z
set_option Elab.async false
set_option linter.all false
set_option maxRecDepth 100000
set_option maxHeartbeats 4000000
namespace Z
open PySem PySem.Spec L2
/-! ## ends, by computation -/
theorem fin_db {n : Nat} {Q : Ent → Ms → Prop} {x : PyData} {M : Ms} (hl : Nat.ble n M.length = true) (hf : flatMs (M.take n) = true) (h : Q (.d x) (M.take n)) : Fin n Q (.d x) M := fin_d (Nat.le_of_ble_eq_true hl) hf h
theorem fin_rb {n j : Nat} {Q : Ent → Ms → Prop} {M : Ms} {m : Mo} (hj : M[j]? = some (some m)) (hm : flatM m = true) (hn : Nat.ble n j = true) (hf : flatMs (M.take n) = true) (h : Q (.r n) (M.take n ++ [some m])) : Fin n Q (.r j) M := fin_r hj hm (Nat.le_of_ble_eq_true hn) hf h
theorem o_neB {J : Jx} {M : Ms} {P : Ent → Ms → Prop} {i j : Bool} (p : P (.d (.bool (!decide (i = j)))) M) : O2 J (rNeU J.K) (.d (.bool i)) (.d (.bool j)) M P := o_neS rfl rfl rfl (by simpa using p)
/-- some places of a frame, told anew -/
def upG (Γ : Ga) (l : List (Nat × Option Ent)) : Ga := l.foldl (fun g p => g.set p.1 p.2) Γ
/-! ## dicts -/
section
variable {J : Jx} {Γ : Ga} {M : Ms} {P : Ent → Ms → Prop} {D : Nd} {td ty tv tx : TE}
/-- a key -/
def kE : Key → PyData
  | .inl i => .int i
  | .inr s => .str s
/-- the entry of a key -/
def kGet (kds : List (Key × PyData)) (k : Key) : Option PyData := (kds.find? fun kv => decide (kv.1 = k)).map (·.2)
theorem val_get {K : PySem.W.Frag} {F : Wd} {k : Key} : ∀ {kvs : List (Key × V)} {kds : List (Key × PyData)}, KVs K F kvs kds → (kGet kds k = none ∧ valV kvs k = none) ∨ ∃ d v, kGet kds k = some d ∧ valV kvs k = some v ∧ Rp K F v d
  | _, _, .nil => .inl ⟨rfl, rfl⟩
  | (a, v) :: vs, (b, d) :: ds, .cons ⟨e, r⟩ t => by
    have e' : a = b := e
    subst e'
    unfold kGet valV
    rw [List.find?_cons, List.find?_cons]
    by_cases h : a = k
    · have h1 : decide (a = k) = true := decide_eq_true h
      simp only [h1]
      exact .inr ⟨d, v, rfl, rfl, r⟩
    · have h1 : decide (a = k) = false := decide_eq_false h
      simp only [h1]
      exact val_get t
theorem rp_kE {K : PySem.W.Frag} {F : Wd} {v : V} {k : Key} (r : Rp K F v (kE k)) : v = kV k := by
  cases k with
  | inl i => cases r; rfl
  | inr s => cases r; rfl
theorem w_dnew (p : P (.r M.length) (M ++ [some (.dic [])])) : Wx J tDNewK Γ M P := fun F Z σ H en m x Q q => fun a n => by
  obtain ⟨s2, m2, r2⟩ := m.newM (o := .dK []) (m := .dic []) n ⟨[], rfl, .nil⟩
  exact q _ _ _ (.r M.length) _ s2 m2 r2 p
theorem w_dget (h : Wx J td Γ M fun x M1 => Wx J ty Γ M1 fun y M2 => ∃ n kds k d, x = .r n ∧ y = .d (kE k) ∧ M2[n]? = some (some (.dic kds)) ∧ kGet kds k = some d ∧ P (.d d) M2) : Wx J (tDGet td ty) Γ M P := fun F Z σ H en m x Q q =>
  h F Z σ H en m x _ fun v F1 H1 e M1 s1 m1 r1 h1 => h1 F1 Z σ H1 (en.mono s1) m1 (x.mono s1) _ fun u F2 H2 e2 M2 s2 m2 r2 ⟨n, kds, k, d, ex, ey, hm, hg, p⟩ => by
    subst ex
    subst ey
    obtain ⟨b, eb, rfl⟩ := r1
    have eu := rp_kE r2
    subst eu
    obtain ⟨a, kvs, h0, _, ea, rs⟩ := m2.dic hm
    rw [s2.at_ eb] at h0
    cases h0
    rcases val_get (k := k) rs with ⟨z, _⟩ | ⟨d', w, z1, z2, z3⟩
    · rw [hg] at z; cases z
    · rw [hg] at z1
      cases z1
      exact ⟨b, w, rfl, by rw [← z2]; exact DGet.k ea, q w F2 H2 (.d d) M2 (s1.trans s2) m2 z3 p⟩
theorem w_dget1 (h : Wx J td Γ M fun x M1 => ∃ n kds, x = .r n ∧ M1[n]? = some (some (.dic kds)) ∧ Wx J ty Γ M1 fun y M2 => ∃ k, y = .d (kE k) ∧ M2[n]? = some (some (.dic kds)) ∧ P (.d ((kGet kds k).getD .none)) M2) : Wx J (tDGet1 td ty) Γ M P := fun F Z σ H en m x Q q =>
  h F Z σ H en m x _ fun v F1 H1 e M1 s1 m1 r1 ⟨n, kds, ex, hm1, h1⟩ => by
    subst ex
    obtain ⟨b, eb, rfl⟩ := r1
    obtain ⟨a, kvs, h0, _, ea, rs⟩ := m1.dic hm1
    rw [eb] at h0
    cases h0
    refine ⟨b, rfl, .inl ⟨_, .inl ea⟩, h1 F1 Z σ H1 (en.mono s1) m1 (x.mono s1) _ fun u F2 H2 e2 M2 s2 m2 r2 ⟨k, ey, hm2, p⟩ => ?_⟩
    subst ey
    have eu := rp_kE r2
    subst eu
    obtain ⟨a, kvs2, h0, _, ea2, rs2⟩ := m2.dic hm2
    rw [s2.at_ eb] at h0
    cases h0
    refine ⟨valV kvs2 k, DGet.k ea2, ?_⟩
    rcases val_get (k := k) rs2 with ⟨z, z'⟩ | ⟨d', w, z1, z2, z3⟩
    · rw [z'] at *
      rw [z] at p
      exact q _ F2 H2 (.d .none) M2 (s1.trans s2) m2 Rp.non p
    · rw [z2]
      rw [z1] at p
      exact q w F2 H2 (.d d') M2 (s1.trans s2) m2 z3 p
theorem w_dIn (h : Wx J ty Γ M fun y M1 => Wx J td Γ M1 fun x M2 => ∃ n kds k, x = .r n ∧ y = .d (kE k) ∧ M2[n]? = some (some (.dic kds)) ∧ P (.d (.bool (kGet kds k).isSome)) M2) : Wx J (tDIn ty td) Γ M P := fun F Z σ H en m x Q q =>
  h F Z σ H en m x _ fun u F1 H1 e M1 s1 m1 r1 h1 => h1 F1 Z σ H1 (en.mono s1) m1 (x.mono s1) _ fun v F2 H2 e2 M2 s2 m2 r2 ⟨n, kds, k, ex, ey, hm, p⟩ => by
    subst ex
    subst ey
    obtain ⟨b, eb, rfl⟩ := r2
    have eu := rp_kE r1
    subst eu
    obtain ⟨a, kvs, h0, _, ea, rs⟩ := m2.dic hm
    rw [eb] at h0
    cases h0
    refine ⟨b, valV kvs k, rfl, DGet.k ea, ?_⟩
    rcases val_get (k := k) rs with ⟨z, z'⟩ | ⟨d', w, z1, z2, z3⟩
    · rw [z']
      rw [z] at p
      exact q _ F2 H2 (.d (.bool false)) M2 (s1.trans s2) m2 (Rp.bl false) p
    · rw [z2]
      rw [z1] at p
      exact q _ F2 H2 (.d (.bool true)) M2 (s1.trans s2) m2 (Rp.bl true) p
theorem w_dNotIn (h : Wx J ty Γ M fun y M1 => Wx J td Γ M1 fun x M2 => ∃ n kds k, x = .r n ∧ y = .d (kE k) ∧ M2[n]? = some (some (.dic kds)) ∧ P (.d (.bool (!(kGet kds k).isSome))) M2) : Wx J (tDNotIn ty td) Γ M P := fun F Z σ H en m x Q q =>
  h F Z σ H en m x _ fun u F1 H1 e M1 s1 m1 r1 h1 => h1 F1 Z σ H1 (en.mono s1) m1 (x.mono s1) _ fun v F2 H2 e2 M2 s2 m2 r2 ⟨n, kds, k, ex, ey, hm, p⟩ => by
    subst ex
    subst ey
    obtain ⟨b, eb, rfl⟩ := r2
    have eu := rp_kE r1
    subst eu
    obtain ⟨a, kvs, h0, _, ea, rs⟩ := m2.dic hm
    rw [eb] at h0
    cases h0
    refine ⟨b, valV kvs k, rfl, DGet.k ea, ?_⟩
    rcases val_get (k := k) rs with ⟨z, z'⟩ | ⟨d', w, z1, z2, z3⟩
    · rw [z']
      rw [z] at p
      exact q _ F2 H2 (.d (.bool true)) M2 (s1.trans s2) m2 (Rp.bl true) p
    · rw [z2]
      rw [z1] at p
      exact q _ F2 H2 (.d (.bool false)) M2 (s1.trans s2) m2 (Rp.bl false) p
def kPut (kds : List (Key × PyData)) (k : Key) (d : PyData) : List (Key × PyData) :=
  if (kds.any fun kv => decide (kv.1 = k)) = true then kds.map (fun kv => if kv.1 = k then (kv.1, d) else kv) else kds ++ [(k, d)]
theorem kvs_any {K : PySem.W.Frag} {F : Wd} (k : Key) : ∀ {vs : List (Key × V)} {ds : List (Key × PyData)}, KVs K F vs ds → (vs.any fun kv => decide (kv.1 = k)) = (ds.any fun kv => decide (kv.1 = k))
  | _, _, .nil => rfl
  | (a, v) :: vs, (b, d) :: ds, .cons ⟨e, r⟩ t => by
    have e' : a = b := e
    subst e'
    rw [List.any_cons, List.any_cons, kvs_any k t]
theorem kvs_map {K : PySem.W.Frag} {F : Wd} {v : V} {d : PyData} (k : Key) (r : Rp K F v d) : ∀ {vs : List (Key × V)} {ds : List (Key × PyData)}, KVs K F vs ds → KVs K F (vs.map fun kv => if kv.1 = k then (kv.1, v) else kv) (ds.map fun kv => if kv.1 = k then (kv.1, d) else kv)
  | _, _, .nil => .nil
  | (a, w) :: vs, (b, c) :: ds, .cons ⟨e, q⟩ t => by
    have e' : a = b := e
    subst e'
    refine .cons ?_ (kvs_map k r t)
    show (if a = k then (a, v) else (a, w)).1 = (if a = k then (a, d) else (a, c)).1 ∧ Rp K F (if a = k then (a, v) else (a, w)).2 (if a = k then (a, d) else (a, c)).2
    split
    · exact ⟨rfl, r⟩
    · exact ⟨rfl, q⟩
theorem kvs_put {K : PySem.W.Frag} {F : Wd} {v : V} {d : PyData} {k : Key} {vs : List (Key × V)} {ds : List (Key × PyData)} (h : KVs K F vs ds) (r : Rp K F v d) : KVs K F (putK vs k v) (kPut ds k d) := by
  unfold putK kPut
  rw [kvs_any k h]
  split
  · exact kvs_map k r h
  · exact paired_append h (.cons ⟨rfl, r⟩ .nil)
theorem s_dput (h : Wx J tv Γ M fun e M1 => Wx J td Γ M1 fun x M2 => Wx J ty Γ M2 fun y M3 => ∃ d n kds k, e = .d d ∧ x = .r n ∧ y = .d (kE k) ∧ M3[n]? = some (some (.dic kds)) ∧ kds.length < sizeLine ∧ D.nx Γ (M3.set n (some (.dic (kPut kds k d))))) : Sx J (sDPut td ty tv) D Γ M := fun F Z σ H C en m x d =>
  h F Z σ H en m x _ fun v F1 H1 e M1 s1 m1 r1 h1 => h1 F1 Z σ H1 (en.mono s1) m1 (x.mono s1) _ fun w F2 H2 e2 M2 s2 m2 r2 h2 => h2 F2 Z σ H2 (en.mono (s1.trans s2)) m2 (x.mono (s1.trans s2)) _ fun u F3 H3 e3 M3 s3 m3 r3 ⟨d', n, kds, k, ee, ex, ey, hm, hl, p⟩ => by
    subst ee
    subst ex
    subst ey
    obtain ⟨b, eb, rfl⟩ := r2
    have eu := rp_kE r3
    subst eu
    obtain ⟨a, kvs, h0, _, ea, rs⟩ := m3.dic hm
    rw [s3.at_ eb] at h0
    cases h0
    refine ⟨b, _, rfl, DPut.k ea (by rw [Paired.length rs]; exact hl), ?_⟩
    exact d.nx F3 _ _ σ Γ ((s1.trans s2).trans s3) (m3.write (m := .dic (kPut kds k d')) hm (s3.at_ eb) ⟨_, rfl, kvs_put rs (Rp.mono (s2.trans s3) r1)⟩) (en.mono ((s1.trans s2).trans s3)) p
/-! list(d.items()) -/
theorem Mem.ext {K : PySem.W.Frag} {F : Wd} {M : Ms} {Z H H' : Hp} (h : Mem K F M Z H) (k : ∀ b o, H b = some o → H' b = some o) : Mem K F M Z H' :=
  ⟨fun b o e => k b o (h.sub b o e), h.len, fun n m t => let ⟨a, o, h1, h2, h3, h4⟩ := h.chg n m t; ⟨a, o, h1, h2, k a o h3, h4⟩, h.inj, fun a o e => ⟨k a o (h.out a o e).1, (h.out a o e).2⟩⟩
theorem items_grow {K : PySem.W.Frag} {M : Ms} {Z H H' : Hp} (kk : ∀ b o, H b = some o → H' b = some o) : ∀ {ts : List Addr} {kvs : List (Key × V)} {kds : List (Key × PyData)} {F : Wd}, Mem K F M Z H' → (∀ (i : Nat) (m : Mo), M[i]? = some (some m) → ∀ t ∈ ts, F.ι[i]? ≠ some t) → (∀ t ∈ ts, Z t = none) → KVs K F kvs kds →
    (∀ t ∈ ts, F.F t = none ∨ ∃ xs, F.F t = some (.tup xs) ∧ H' t = some (.tup xs)) → Paired (fun (t : Addr) (q : Key × V) => H' t = some (.tup [kV q.1, q.2])) ts kvs → ∃ F', Same F F' ∧ Mem K F' M Z H' ∧ RpAll K F' (ts.map V.ref) (kds.map fun q => .tuple [kE q.1, q.2])
  | [], _, _, F, m, _, _, .nil, _, .nil => ⟨F, Same.refl F, m, .nil⟩
  | t :: ts, q :: kvs, p :: kds, F, m, nM, nZ, .cons ⟨e1, r⟩ rs, nF, .cons h hs => by
    have hk : Rp K F (kV q.1) (kE p.1) := by
      rw [e1]
      cases p.1 with
      | inl i => exact Rp.int i
      | inr s => exact Rp.str s
    have step : ∃ F1, Same F F1 ∧ Mem K F1 M Z H' ∧ F1.F t = some (.tup [kV q.1, q.2]) ∧ F1.ι = F.ι ∧ ∀ b, b ≠ t → F1.F b = F.F b := by
      rcases nF t (List.mem_cons_self ..) with z | ⟨xs, z1, z2⟩
      · obtain ⟨s1, m1⟩ := m.growF (o := .tup [kV q.1, q.2]) z (nZ t (List.mem_cons_self ..)) (fun i m' t' => nM i m' t' t (List.mem_cons_self ..)) h fun b _ => rfl
        exact ⟨_, s1, m1, upd_same, rfl, fun b hb => upd_ne hb⟩
      · rw [h] at z2
        cases z2
        exact ⟨F, Same.refl F, m, z1, rfl, fun b _ => rfl⟩
    obtain ⟨F1, s1, m1, et, ei, eo⟩ := step
    obtain ⟨F', s2, m2, ra⟩ := items_grow kk m1 (fun i m' t' b hb => by rw [ei]; exact nM i m' t' b (List.mem_cons_of_mem _ hb)) (fun b hb => nZ b (List.mem_cons_of_mem _ hb)) (Paired.mapP rs fun _ _ z => ⟨z.1, Rp.mono s1 z.2⟩) (fun b hb => by
      by_cases e : b = t
      · subst e
        exact .inr ⟨_, et, h⟩
      · rw [eo b e]
        exact nF b (List.mem_cons_of_mem _ hb)) hs
    exact ⟨F', s1.trans s2, m2, .cons (.tup (.inl (.inl (s2.F _ _ et))) (.cons (Rp.mono (s1.trans s2) hk) (.cons (Rp.mono (s1.trans s2) r) .nil))) ra⟩
theorem items_grow2 {K : PySem.W.Frag} {M : Ms} {Z H H' : Hp} (kk : ∀ b o, H b = some o → H' b = some o) : ∀ {ts : List Addr} {kvs : List (Key × V)} {kds : List (Key × PyData)} {F : Wd}, Mem K F M Z H' → (∀ (i : Nat) (m : Mo), M[i]? = some (some m) → ∀ t ∈ ts, F.ι[i]? ≠ some t) → (∀ t ∈ ts, Z t = none) → KVs K F kvs kds →
    (∀ t ∈ ts, F.F t = none ∨ ∃ xs, F.F t = some (.tup xs) ∧ H' t = some (.tup xs)) → Paired (fun (t : Addr) (q : Key × V) => H' t = some (.tup [kV q.1, q.2])) ts kvs → ∃ F', Same F F' ∧ Mem K F' M Z H' ∧ RpAll K F' (ts.map V.ref) (kds.map fun q => .tuple [kE q.1, q.2]) ∧ ∀ l, l ∉ ts → F'.F l = F.F l
  | [], _, _, F, m, _, _, .nil, _, .nil => ⟨F, Same.refl F, m, .nil, fun _ _ => rfl⟩
  | t :: ts, q :: kvs, p :: kds, F, m, nM, nZ, .cons ⟨e1, r⟩ rs, nF, .cons h hs => by
    have hk : Rp K F (kV q.1) (kE p.1) := by
      rw [e1]
      cases p.1 with
      | inl i => exact Rp.int i
      | inr s => exact Rp.str s
    have step : ∃ F1, Same F F1 ∧ Mem K F1 M Z H' ∧ F1.F t = some (.tup [kV q.1, q.2]) ∧ F1.ι = F.ι ∧ ∀ b, b ≠ t → F1.F b = F.F b := by
      rcases nF t (List.mem_cons_self ..) with z | ⟨xs, z1, z2⟩
      · obtain ⟨s1, m1⟩ := m.growF (o := .tup [kV q.1, q.2]) z (nZ t (List.mem_cons_self ..)) (fun i m' t' => nM i m' t' t (List.mem_cons_self ..)) h fun b _ => rfl
        exact ⟨_, s1, m1, upd_same, rfl, fun b hb => upd_ne hb⟩
      · rw [h] at z2
        cases z2
        exact ⟨F, Same.refl F, m, z1, rfl, fun b _ => rfl⟩
    obtain ⟨F1, s1, m1, et, ei, eo⟩ := step
    obtain ⟨F', s2, m2, ra, hF⟩ := items_grow2 kk m1 (fun i m' t' b hb => by rw [ei]; exact nM i m' t' b (List.mem_cons_of_mem _ hb)) (fun b hb => nZ b (List.mem_cons_of_mem _ hb)) (Paired.mapP rs fun _ _ z => ⟨z.1, Rp.mono s1 z.2⟩) (fun b hb => by
      by_cases e : b = t
      · subst e
        exact .inr ⟨_, et, h⟩
      · rw [eo b e]
        exact nF b (List.mem_cons_of_mem _ hb)) hs
    refine ⟨F', s1.trans s2, m2, .cons (.tup (.inl (.inl (s2.F _ _ et))) (.cons (Rp.mono (s1.trans s2) hk) (.cons (Rp.mono (s1.trans s2) r) .nil))) ra, fun l hl => ?_⟩
    rw [hF l fun z => hl (List.mem_cons_of_mem _ z)]
    exact eo l fun z => hl (z ▸ List.mem_cons_self ..)
theorem w_items (h : Wx J td Γ M fun x M1 => ∃ n kds, x = .r n ∧ M1[n]? = some (some (.dic kds)) ∧ P (.d (.list (kds.map fun q => .tuple [kE q.1, q.2]))) M1) : Wx J (LiI.tListItems td) Γ M P := fun F Z σ H en m x Q q =>
  h F Z σ H en m x _ fun v F1 H1 e M1 s1 m1 r1 ⟨n, kds, ex, hm, p⟩ => by
    subst ex
    obtain ⟨b, eb, rfl⟩ := r1
    obtain ⟨a, kvs, h0, _, ea, rs⟩ := m1.dic hm
    rw [eb] at h0
    cases h0
    refine ⟨b, kvs, rfl, ea, fun H' l ts k1 k2 k3 k4 k5 k6 => ?_⟩
    have m2 := m1.ext k1
    have fr := fun t (ht : t ∈ ts) => m1.free (k3 t ht)
    obtain ⟨F', s2, m3, ra⟩ := items_grow (kds := kds) k1 m2 (fun i m' t' t ht => (fr t ht).2.2 i m' t') (fun t ht => (fr t ht).1) rs (fun t ht => .inl (fr t ht).2.1) k6
    have fl := m1.free k2
    by_cases el : ∃ o, F'.F l = some o
    · obtain ⟨o, eo⟩ := el
      have q1 := m3.sub l o eo
      rw [k5] at q1
      cases q1
      exact q (.ref l) F' H' (.d (.list _)) M1 (s1.trans s2) m3 (Rp.lst eo ra) p
    · have nl : F'.F l = none := by
        cases z : F'.F l with
        | none => rfl
        | some o => exact absurd ⟨o, z⟩ el
      have nM : ∀ (i : Nat) (m' : Mo), M1[i]? = some (some m') → F'.ι[i]? ≠ some l := fun i m' t' e' => by
        obtain ⟨c, o, z1, _⟩ := m1.chg i m' t'
        rw [s2.at_ z1] at e'
        cases e'
        exact fl.2.2 i m' t' z1
      obtain ⟨s3, m4⟩ := m3.growF nl fl.1 nM k5 fun b _ => rfl
      exact q (.ref l) _ H' (.d (.list _)) M1 ((s1.trans s2).trans s3) m4 (Rp.lst upd_same (RpAll.mono s3 ra)) p
end
theorem pe_neverE {X : Cx} {e : Expr} : PE X e (fun _ _ _ => False) := ⟨fun _ _ _ _ _ _ h => h.elim⟩
theorem ke_revL {X : Cx} {K : PySem.W.Frag} (h : X.K = K) {e : Expr} {te : TE} {k : Nat} {p1 p2 p3 pos : Pos} (he : PE X e te) : PE X (.Subscript e (.Slice none none (some (.UnaryOp .USub (.Constant (.int 1) k p1) p2)) p3) pos) (tRevL K te) := h ▸ pe_revL he
theorem ex_ld {M : Ms} {x : Ent} {ds : List PyData} {R : List PyData → Prop} (h : LD M x ds) (r : R ds) : ∃ ds, LD M x ds ∧ R ds := ⟨ds, h, r⟩
/-! ## steps at dicts with text keys -/
section
variable {M : Ms} {n : Nat} {kds : List (Key × PyData)} {s : Str}
theorem dk_any {R : Nat → List (Key × PyData) → Key → Prop} (hm : M[n]? = some (some (.dic kds))) (r : R n kds (.inr s)) : ∃ n' kds' k, Ent.r n = .r n' ∧ Ent.d (.str s) = .d (kE k) ∧ M[n']? = some (some (.dic kds')) ∧ R n' kds' k := ⟨n, kds, .inr s, rfl, rfl, hm, r⟩
theorem dk_in {f : List (Key × PyData) → Key → Bool} {P : Ent → Ms → Prop} (hm : M[n]? = some (some (.dic kds))) (p : P (.d (.bool (f kds (.inr s)))) M) : ∃ n' kds' k, Ent.r n = .r n' ∧ Ent.d (.str s) = .d (kE k) ∧ M[n']? = some (some (.dic kds')) ∧ P (.d (.bool (f kds' k))) M := ⟨n, kds, .inr s, rfl, rfl, hm, p⟩
theorem dk_isIn {P : Ent → Ms → Prop} (hm : M[n]? = some (some (.dic kds))) (p : P (.d (.bool (kGet kds (.inr s)).isSome)) M) : ∃ n' kds' k, Ent.r n = .r n' ∧ Ent.d (.str s) = .d (kE k) ∧ M[n']? = some (some (.dic kds')) ∧ P (.d (.bool (kGet kds' k).isSome)) M := ⟨n, kds, .inr s, rfl, rfl, hm, p⟩
theorem dk_notIn {P : Ent → Ms → Prop} (hm : M[n]? = some (some (.dic kds))) (p : P (.d (.bool (!(kGet kds (.inr s)).isSome))) M) : ∃ n' kds' k, Ent.r n = .r n' ∧ Ent.d (.str s) = .d (kE k) ∧ M[n']? = some (some (.dic kds')) ∧ P (.d (.bool (!(kGet kds' k).isSome))) M := ⟨n, kds, .inr s, rfl, rfl, hm, p⟩
theorem dk_get {P : Ent → Ms → Prop} {d : PyData} (hm : M[n]? = some (some (.dic kds))) (hg : kGet kds (.inr s) = some d) (p : P (.d d) M) : ∃ n' kds' k d', Ent.r n = .r n' ∧ Ent.d (.str s) = .d (kE k) ∧ M[n']? = some (some (.dic kds')) ∧ kGet kds' k = some d' ∧ P (.d d') M := ⟨n, kds, .inr s, d, rfl, rfl, hm, hg, p⟩
theorem dk_get1 {R : Nat → List (Key × PyData) → Prop} (hm : M[n]? = some (some (.dic kds))) (r : R n kds) : ∃ n' kds', Ent.r n = .r n' ∧ M[n']? = some (some (.dic kds')) ∧ R n' kds' := ⟨n, kds, rfl, hm, r⟩
theorem dk_key {P : Ent → Ms → Prop} (hm : M[n]? = some (some (.dic kds))) (p : P (.d ((kGet kds (.inr s)).getD .none)) M) : ∃ k, Ent.d (.str s) = .d (kE k) ∧ M[n]? = some (some (.dic kds)) ∧ P (.d ((kGet kds k).getD .none)) M := ⟨.inr s, rfl, hm, p⟩
theorem dk_put {d : PyData} {R : Ms → Prop} (hm : M[n]? = some (some (.dic kds))) (hl : kds.length < sizeLine) (r : R (M.set n (some (.dic (kPut kds (.inr s) d))))) :
    ∃ d' n' kds' k, Ent.d d = .d d' ∧ Ent.r n = .r n' ∧ Ent.d (.str s) = .d (kE k) ∧ M[n']? = some (some (.dic kds')) ∧ kds'.length < sizeLine ∧ R (M.set n' (some (.dic (kPut kds' k d')))) := ⟨d, n, kds, .inr s, rfl, rfl, rfl, hm, hl, r⟩
end
theorem wm_items {J : Jx} {Γ : Ga} {M : Ms} {P : Ent → Ms → Prop} {td : TE} (h : Wx J td Γ M fun x M1 => ∃ n kds, x = .r n ∧ M1[n]? = some (some (.dic kds)) ∧ P (.r M1.length) (M1 ++ [some (.lst (kds.map fun q => .tuple [kE q.1, q.2]))])) : WM J (LiI.tListItems td) Γ M P := fun F Z σ H en m x Q q =>
  h F Z σ H en m x _ fun v F1 H1 e M1 s1 m1 r1 ⟨n, kds, ex, hm, p⟩ => by
    subst ex
    obtain ⟨b, eb, rfl⟩ := r1
    obtain ⟨a, kvs, h0, _, ea, rs⟩ := m1.dic hm
    rw [eb] at h0
    cases h0
    refine ⟨b, kvs, rfl, ea, fun H' l ts k1 k2 k3 k4 k5 k6 => ?_⟩
    have m2 := m1.ext k1
    have fr := fun t (ht : t ∈ ts) => m1.free (k3 t ht)
    obtain ⟨F', s2, m3, ra, hF⟩ := items_grow2 (kds := kds) k1 m2 (fun i m' t' t ht => (fr t ht).2.2 i m' t') (fun t ht => (fr t ht).1) rs (fun t ht => .inl (fr t ht).2.1) k6
    have fl := m1.free k2
    have nl : F'.F l = none := by
      rw [hF l k4]
      exact fl.2.1
    have nM : ∀ (i : Nat) (m' : Mo), M1[i]? = some (some m') → F'.ι[i]? ≠ some l := fun i m' t' e' => by
      obtain ⟨c, o, z1, _⟩ := m1.chg i m' t'
      rw [s2.at_ z1] at e'
      cases e'
      exact fl.2.2 i m' t' z1
    obtain ⟨s3, m4, r4⟩ := m3.pushM (m := .lst _) nl fl.1 nM k5 (fun b _ => rfl) ⟨_, rfl, ra⟩
    exact q (.ref l) _ H' (.r M1.length) _ ((s1.trans s2).trans s3) m4 r4 p
/-! ## comprehensions that change nothing, told behind their items -/
def LcfE (J : Jx) (Γ : Ga) (g : TG) (tt : TT) (te : TE) (P : Ent → Ms → Prop) (vs : List Nat) (its : List Ent) (G : Ms → Prop) (M1 : Ms) : Prop := ∃ (α : Type) (xs : List α) (e : α → Ent) (p : α → Bool) (f : α → PyData), its = xs.map e ∧ xs.length ≤ sizeLine ∧ G M1 ∧
      (∀ x, x ∈ xs → GT J g (e x) (wipeG Γ vs) M1 fun Γ2 M2 => M2 = M1 ∧ (∀ B : Bool → Ms → Prop, B (p x) M1 → WT J tt Γ2 M1 B) ∧ (p x = true → ∀ R : Ent → Ms → Prop, R (.d (f x)) M1 → Wx J te Γ2 M1 R)) ∧
      P (.d (.list ((xs.filter p).map f))) M1
theorem w_lcE {J : Jx} {Γ : Ga} {M : Ms} {wi : TI} {g : TG} {tt : TT} {te : TE} {P : Ent → Ms → Prop} {vs : List Nat} (hw : WpOk g vs)
    (h : WI J wi Γ M fun its G M1 => LcfE J Γ g tt te P vs its G M1) : Wx J (tLc wi g tt te vs) Γ M P := by
  refine w_lc hw ?_
  intro F Z σ H en m x R q
  refine h F Z σ H en m x R fun I F' H' M' its G s m' aw hh => ?_
  obtain ⟨α, xs, e, p, f, e1, hl, hG, hs, hp⟩ := hh
  subst e1
  refine q I F' H' _ _ G s m' aw ⟨fun i ds M2 => M2 = M' ∧ ds = ((xs.take i).filter p).map f, by rw [List.length_map]; exact hl, ⟨rfl, rfl⟩, fun i ds M2 _ ⟨z, _⟩ => by rw [z]; exact hG, ?_, ?_⟩
  · rintro i ee ds M2 hi ⟨rfl, rfl⟩
    rw [List.getElem?_map] at hi
    cases ex : xs[i]? with
    | none =>
      rw [ex] at hi
      cases hi
    | some x =>
      rw [ex] at hi
      have he : ee = e x := (Option.some.inj hi).symm
      subst he
      have tk : xs.take (i + 1) = xs.take i ++ [x] := by rw [List.take_add_one, ex]; rfl
      intro F2 Z2 σ2 H2 v en2 mm2 x2 r2 Q2 q2
      refine hs x (List.mem_of_getElem? ex) F2 Z2 σ2 H2 v en2 mm2 x2 r2 Q2 fun F3 H3 σ3 Γ3 M3 s3 m3 en3 hh => ?_
      obtain ⟨rfl, ht, he⟩ := hh
      refine q2 F3 H3 σ3 Γ3 _ s3 m3 en3 (ht _ ⟨fun hb => ?_, fun hb => ?_⟩)
      · exact he hb _ ⟨_, rfl, rfl, by rw [tk, List.filter_append, List.map_append, List.filter_cons, if_pos hb]; rfl⟩
      · exact ⟨rfl, by rw [tk, List.filter_append, List.map_append, List.filter_cons, if_neg (by rw [hb]; decide)]; simp⟩
  · rintro ds M2 _ ⟨rfl, rfl⟩
    rw [List.length_map, List.take_length]
    exact hp
/-! ## items at a place that is not written -/
section
variable {J : Jx} {M : Ms} {P : Ent → Ms → Prop} {y : Ent} {ds : List PyData} {i : Int}
theorem o_ixIm {ns : List Int} (hd : LD M y ds) (hx : intsOf ds = some ns) (h0 : 0 ≤ i) (h1 : i < (ns.length : Int)) (q : ∀ x, x ∈ ns → P (.d (.int x)) M) : O2 J (rIx J.K) y (.d (.int i)) M P := by
  have e := intsOf_ok hx
  have hi : i.toNat < ns.length := by omega
  refine o_ixL (d := .int ns[i.toNat]) hd (atI_nat' h0 ?_) (q _ (List.getElem_mem hi))
  rw [e, List.getElem?_map, List.getElem?_eq_getElem hi]
  rfl
theorem o_ixSl {x : String} (hl : (Str.ofString x).length ≤ 1000000) (h0 : 0 ≤ i) (h1 : i < ((Str.ofString x).length : Int)) (q : ∀ c, c ∈ cs (Str.ofString x) → P (.d (.str ⟨#[c]⟩)) M) : O2 J (rIx J.K) (.d (.str (Str.ofString x))) (.d (.int i)) M P := o_ixSs hl h0 h1 q
theorem o_ix2s {a b : PyData} (h0 : 0 ≤ i) (h1 : i < 2) (p : P (.d a) M) (q : P (.d b) M) : O2 J (rIx J.K) (.d (.list [a, b])) (.d (.int i)) M P := by
  rcases (show i = 0 ∨ i = 1 by omega) with rfl | rfl
  · exact o_ixL (d := a) LD.d rfl p
  · exact o_ixL (d := b) LD.d rfl q
theorem o_ixIs {ns : List Int} (hd : LD M y ds) (hx : ds = ns.map PyData.int) (h0 : 0 ≤ i) (h1 : i < (ns.length : Int)) (q : ∀ x, x ∈ ns → P (.d (.int x)) M) : O2 J (rIx J.K) y (.d (.int i)) M P := by
  have hi : i.toNat < ns.length := by omega
  refine o_ixL (d := .int ns[i.toNat]) hd (atI_nat' h0 ?_) (q _ (List.getElem_mem hi))
  rw [hx, List.getElem?_map, List.getElem?_eq_getElem hi]
  rfl
theorem o_ixTm {xs : List Str} (hd : LD M y ds) (hx : strsOf ds = some xs) (h0 : 0 ≤ i) (h1 : i < (xs.length : Int)) (q : ∀ s : Str, s ∈ xs → P (.d (.str s)) M) : O2 J (rIx J.K) y (.d (.int i)) M P := by
  have e := strsOf_ok hx
  have hi : i.toNat < xs.length := by omega
  refine o_ixL (d := .str xs[i.toNat]) hd (atI_nat' h0 ?_) (q _ (List.getElem_mem hi))
  rw [e, List.getElem?_map, List.getElem?_eq_getElem hi]
  rfl
theorem o_ixTt {xs : List Str} (hd : LD M y ds) (hx : ds = xs.map PyData.str) (h0 : 0 ≤ i) (h1 : i < (xs.length : Int)) (q : ∀ s : Str, s ∈ xs → P (.d (.str s)) M) : O2 J (rIx J.K) y (.d (.int i)) M P := by
  have hi : i.toNat < xs.length := by omega
  refine o_ixL (d := .str xs[i.toNat]) hd (atI_nat' h0 ?_) (q _ (List.getElem_mem hi))
  rw [hx, List.getElem?_map, List.getElem?_eq_getElem hi]
  rfl
end
theorem fm0 {i j : Int} (h : 0 < j) : 0 ≤ i.fmod j := Int.fmod_nonneg_of_pos i h
theorem fm1 {i j : Int} (h : 0 < j) : i.fmod j < j := Int.fmod_lt_of_pos i h
theorem cmul_fm {a b n : Int} (h : 0 < n) (hn : n ≤ 4294967296) : CMul (a.fmod n) b := by
  have h1 := fm0 (i := a) h
  have h2 := fm1 (i := a) h
  exact .inl ⟨by omega, by omega⟩
theorem cdivN {a b : Int} (h : b ≠ 0) (hb : -1000000000 ≤ b ∧ b ≤ 1000000000) : CDivN a b := ⟨h, by omega⟩
/-! ## more of lists, texts -/
section
variable {J : Jx} {Γ : Ga} {M : Ms} {P : Ent → Ms → Prop} {te : TE}
theorem rpAll_rev {K : PySem.W.Frag} {F : Wd} : ∀ {vs : List V} {ds : List PyData}, RpAll K F vs ds → RpAll K F vs.reverse ds.reverse
  | _, _, .nil => .nil
  | _, _, .cons h r => by
    rw [List.reverse_cons, List.reverse_cons]
    exact (rpAll_rev r).append (.cons h .nil)
theorem w_revL (h : Wx J te Γ M fun x M1 => ∃ ds, LD M1 x ds ∧ P (.d (.list ds.reverse)) M1) : Wx J (tRevL J.K te) Γ M P := fun F Z σ H en m x Q q =>
  h F Z σ H en m x _ fun v F1 H1 e M1 s1 m1 r1 ⟨ds, hd, p⟩ => by
    obtain ⟨a, vs, rfl, ea, rs⟩ := ld_ok m1 r1 hd
    refine ⟨a, vs, rfl, ea, fun l n => ?_⟩
    obtain ⟨s3, m3⟩ := m1.newF (o := .lst _) n
    exact q _ _ _ (.d (.list _)) M1 (s1.trans s3) m3 (Rp.lst upd_same (RpAll.mono s3 (rpAll_rev rs))) p
theorem m_upper {a : Str} (hl : a.length ≤ 5592405) (p : P (.d (.str (Txt.upper a))) M) : OM J (fun x xs H Q => ∃ a, x = .str a ∧ xs = [] ∧ a.length ≤ 5592405 ∧ Q (.str (Txt.upper a)) H) (.d (.str a)) [] M P := fun F Z H v vs m xr r1 r2 Q q => by
  cases r1
  cases r2
  exact ⟨a, rfl, rfl, hl, q _ F H (.d (.str _)) M (Same.refl F) m (Rp.str _) p⟩
theorem m_lower {a : Str} (hl : a.length ≤ 5592405) (p : P (.d (.str (Txt.lower a))) M) : OM J (fun x xs H Q => ∃ a, x = .str a ∧ xs = [] ∧ a.length ≤ 5592405 ∧ Q (.str (Txt.lower a)) H) (.d (.str a)) [] M P := fun F Z H v vs m xr r1 r2 Q q => by
  cases r1
  cases r2
  exact ⟨a, rfl, rfl, hl, q _ F H (.d (.str _)) M (Same.refl F) m (Rp.str _) p⟩
theorem w_m0 {r : V → List V → Hp → VK → Prop} {to : TE} (h : Wx J to Γ M fun x M1 => (∃ s, x = .d (.str s)) ∧ OM J r x [] M1 P) : Wx J (tM0 r to) Γ M P := fun F Z σ H en m x Q q =>
  h F Z σ H en m x _ fun v F1 H1 e1 M1 s1 m1 r1 ⟨⟨s, hs⟩, h1⟩ => by
    subst hs
    have r1' := r1
    cases r1
    exact ⟨⟨_, rfl⟩, h1 F1 Z H1 _ [] m1 (x.mono s1) r1' .nil Q fun w F3 H3 e3 M3 s3 m3 r3 p => q w F3 H3 e3 M3 (s1.trans s3) m3 r3 p⟩
end
/-! ## walks over lists of data, wherever they stand -/
theorem wi_any {J : Jx} {Γ : Ga} {M : Ms} {te : TE} {P : List Ent → (Ms → Prop) → Ms → Prop} (h : Wx J te Γ M fun x M1 => ∃ ds, LD M1 x ds ∧ P (ds.map Ent.d) (fun M2 => LD M2 x ds) M1) : WI J (iList J.K te) Γ M P := fun F Z σ H en m x R q =>
  h F Z σ H en m x _ fun v F1 H1 e M1 s1 m1 r1 ⟨ds, hd, p⟩ => by
    obtain ⟨a, vs, rfl, ea, rs⟩ := ld_ok m1 r1 hd
    refine ⟨a, rfl, ⟨vs, ea⟩, q _ F1 H1 M1 _ _ s1 m1 (fun Z' hZ => ?_) p⟩
    have at_ : ∀ F2 M2 H2, Same F1 F2 → Mem J.K F2 M2 Z' H2 → LD M2 e ds → ∃ ws, SqL J.K H2 a ws ∧ RpAll J.K F2 ws ds := fun F2 M2 H2 s2 m2 g => by
      obtain ⟨b, ws, hb, eb, rw'⟩ := ld_ok m2 (r1.mono s2) g
      cases hb
      exact ⟨ws, eb, rw'⟩
    refine ⟨fun F2 M2 H2 i s2 m2 g hi => ?_, fun F2 M2 H2 s2 m2 g => ?_, fun F2 M2 H2 i x H' s2 m2 g hi y => ?_⟩
    · obtain ⟨ws, ec, qs⟩ := at_ F2 M2 H2 s2 m2 g
      rw [List.length_map] at hi
      exact (walk_list (xs := ws)).goes i H2 (by rw [qs.length]; exact hi) ec
    · obtain ⟨ws, ec, qs⟩ := at_ F2 M2 H2 s2 m2 g
      have z := (walk_list (K := J.K) (a := a) (xs := ws)).stops H2 ec
      rw [qs.length] at z
      rw [List.length_map]
      exact z
    · obtain ⟨ws, ec, qs⟩ := at_ F2 M2 H2 s2 m2 g
      rw [List.length_map] at hi
      obtain ⟨e1, e2⟩ := (walk_list (K := J.K) (a := a) (xs := ws)).yields i H2 x H' (by rw [qs.length]; exact hi) ec y
      subst e1
      exact ⟨F2, .d ds[i], Same.refl F2, m2, by rw [List.getElem?_map, List.getElem?_eq_getElem hi]; rfl, qs.get e2 (List.getElem?_eq_getElem hi)⟩
/-! ## f-strings -/
section
variable {J : Jx} {Γ : Ga} {M : Ms} {P : Ent → Ms → Prop} {te : TE} {ts : List TE} {acc : Str} {B : Str → Ms → Prop}
/-- a field of an f-string: a text or an int -/
def FmtK (P : Ent → Ms → Prop) (x : Ent) (M1 : Ms) : Prop := (∃ y : Str, x = .d (.str y) ∧ y.length ≤ sizeLine ∧ P (.d (.str y)) M1) ∨ ∃ i : Int, x = .d (.int i) ∧ i.natAbs.log2 < 1920 ∧ P (.d (.str (Str.ofString (toString i)))) M1
theorem w_fmt (h : Wx J te Γ M fun x M1 => FmtK P x M1) : Wx J (tFmt te) Γ M P := fun F Z σ H en m x Q q =>
  h F Z σ H en m x _ fun v F1 H1 e M1 s1 m1 r1 hh => by
    rcases hh with ⟨y, rfl, hl, p⟩ | ⟨i, rfl, hl, p⟩
    · cases r1
      exact .inl ⟨y, rfl, hl, q _ F1 H1 (.d (.str y)) M1 s1 m1 (Rp.str y) p⟩
    · cases r1
      exact .inr ⟨i, rfl, hl, q _ F1 H1 (.d (.str _)) M1 s1 m1 (Rp.str _) p⟩
theorem fm_s {y : Str} {M1 : Ms} (hl : y.length ≤ sizeLine) (p : P (.d (.str y)) M1) : FmtK P (.d (.str y)) M1 := .inl ⟨y, rfl, hl, p⟩
theorem fm_i {i : Int} {M1 : Ms} (hl : i.natAbs.log2 < 1920) (p : P (.d (.str (Str.ofString (toString i)))) M1) : FmtK P (.d (.int i)) M1 := .inr ⟨i, rfl, hl, p⟩
def tJoin (ts : List TE) : TE := fun σ H Q => tJs ts Str.empty σ H fun out H1 => Q (.str out) H1
def WJ (J : Jx) (ts : List TE) (acc : Str) (Γ : Ga) (M : Ms) (B : Str → Ms → Prop) : Prop := ∀ F Z σ H, EnvOk J.K F σ Γ → Mem J.K F M Z H → XR J F Z → ∀ Q : Str → Hp → Prop,
  (∀ o F' H' M', Same F F' → Mem J.K F' M' Z H' → B o M' → Q o H') → tJs ts acc σ H Q
theorem wj_nil (p : B acc M) : WJ J [] acc Γ M B := fun F Z σ H en m x Q q => q acc F H M (Same.refl F) m p
theorem wj_cons (h : Wx J te Γ M fun x M1 => ∃ y : Str, x = .d (.str y) ∧ (acc ++ y).length ≤ sizeLine ∧ WJ J ts (acc ++ y) Γ M1 B) : WJ J (te :: ts) acc Γ M B := fun F Z σ H en m x Q q =>
  h F Z σ H en m x _ fun v F1 H1 e M1 s1 m1 r1 ⟨y, ey, hl, h1⟩ => by
    subst ey
    cases r1
    exact ⟨y, rfl, hl, h1 F1 Z σ H1 (en.mono s1) m1 (x.mono s1) Q fun o F' H' M' s' m' p => q o F' H' M' (s1.trans s') m' p⟩
theorem len_one {c : Nat} : (⟨#[c]⟩ : Str).length = 1 := rfl
theorem len_empty : Str.empty.length = 0 := rfl
theorem wj_and {l : Nat} {R : Prop} (hl : l ≤ sizeLine) (h : R) : l ≤ sizeLine ∧ R := ⟨hl, h⟩
theorem w_join (h : WJ J ts Str.empty Γ M fun o M1 => P (.d (.str o)) M1) : Wx J (tJoin ts) Γ M P := fun F Z σ H en m x Q q =>
  h F Z σ H en m x _ fun o F' H' M' s' m' p => q (.str o) F' H' (.d (.str o)) M' s' m' (Rp.str o) p
theorem pe_join2 {X : Cx} {v1 v2 : Expr} {rest : List Expr} {pos : Pos} (h : PJ X (v1 :: v2 :: rest) ts) : PE X (.JoinedStr (v1 :: v2 :: rest) pos) (tJoin ts) := pe_joined h
end
end Z
set_option Elab.async false
set_option linter.all false
set_option maxRecDepth 100000
set_option maxHeartbeats 4000000
namespace Z
open PySem PySem.Spec L2 PyProof.Rows
/-! ## statements of a def whose code is known -/
structure PSA (X : Cx) (body : List Stmt) (st : Stmt) (t : TS) : Prop where
  run : ∀ (pins : List (Addr × Obj)) (s : Shared) (σ : L2.St) (H : Hp) (D : Ends), Inv X pins σ H s → t D σ H → PySem.wpAt (model X.prog X.w) X.A (.func body X.env) (exec st X.env) (SP X pins D) X.xe s
structure PSsA (X : Cx) (body : List Stmt) (st : List Stmt) (t : TS) : Prop where
  run : ∀ (pins : List (Addr × Obj)) (s : Shared) (σ : L2.St) (H : Hp) (D : Ends), Inv X pins σ H s → t D σ H → PySem.wpAt (model X.prog X.w) X.A (.func body X.env) (execs st X.env) (SP X pins D) X.xe s
section
variable {X : Cx} {body rest : List Stmt} {st : Stmt} {t u : TS}
theorem psa_of (h : PS X st t) : PSA X body st t := ⟨fun pins s σ H D I q => wpAt_of_wpAny (h.run pins s σ H D I q)⟩
theorem pssa_of (h : PSs X rest t) : PSsA X body rest t := ⟨fun pins s σ H D I q => wpAt_of_wpAny (h.run pins s σ H D I q)⟩
theorem pssa_cons (h1 : PSA X body st t) (h2 : PSsA X body rest u) : PSsA X body (st :: rest) (tSeq t u) := by
  refine ⟨fun pins s σ H D I h => ?_⟩
  refine ks_wpAt_execs_cons (ks_wpAt_mono (h1.run pins s σ H { D with nx := u D } I h) (fun f s1 q => ?_) fun _ _ z => z)
  cases f with
  | next =>
    obtain ⟨σ', H', I', q⟩ := q
    exact h2.run pins s1 σ' H' D I' q
  | ret v => exact q
  | brk => exact q
  | cont => exact q
theorem pssa_one (h1 : PSA X body st t) : PSsA X body [st] t := by
  refine ⟨fun pins s σ H D I h => ?_⟩
  refine ks_wpAt_execs_cons (ks_wpAt_mono (h1.run pins s σ H D I h) (fun f s1 q => ?_) fun _ _ z => z)
  cases f with
  | next => exact wpAt_of_wpAny (wpAny_execs_nil q)
  | ret v => exact q
  | brk => exact q
  | cont => exact q
end
/-! ## the def's scope, its context -/
structure SScope (N ps : List Str) (sc : Scope) : Prop where
  kind : sc.kind = .function
  co : sc.isCoroutine = false
  gen : sc.isGenerator = false
  nd : N.Nodup
  pre : N.take ps.length = ps
  par : ∀ x ∈ ps, sc.names.lookup x = some .local
  nocell : ∀ y ∈ sc.names, y.2 ≠ .cell
  free : ∀ y ∈ sc.names, y.2 = .free → y.1 = "__class__"
  cl : sc.names.lookup ("__class__" : Str) = some .free
  su : sc.names.lookup ("super" : Str) = some .globalImplicit
abbrev envS (qual : Str) (scope : Scope) (L f : Addr) (cda cc : Addr) : Env := PySem.W.ksEnv qual scope L f (.ref cda) cc
def cxS (CX : CXT) (P : Program) (w : World) (K : PySem.W.Frag) (mg : Str → Option Value) (base : Heap) (N : List Str) (qual : Str) (scope : Scope) (f cda cc : Addr) (A : Around) (outer : List Env) (s : Shared) (H : Hp) (E : XK) : Cx where
  prog := P
  w := w
  K := K
  mg := mg
  base := base
  A := A.deeper (envS qual scope s.heap.objs.size f cda cc)
  N := N
  s_0 := s
  H_0 := H
  env := envS qual scope s.heap.objs.size f cda cc
  outer := outer
  stack := envS qual scope s.heap.objs.size f cda cc :: outer
  ex := []
  calm := true
  fn := fun _ => false
  pn := []
  xe := fun e s' => wpAny (model P w) (A.deeper (envS qual scope s.heap.objs.size f cda cc)) (leaving (envS qual scope s.heap.objs.size f cda cc) e) (fun _ s'' => CX outer H s E e s'') (fun e' s'' => CX outer H s E e' s'') s'
/-- what super() leans on, at a body's context -/
structure SupAt (X : Cx) (D : Addr) (me : Str) : Prop where
  ex : ∃ (q : Str) (scope : Scope) (L f cda cc : Addr) (of oc occ : Obj) (fd : FuncData) (ar : Arg) (vs : Array Value) (file : Str) (tf : Tok), X.env = envS q scope L f cda cc ∧ scope.names.lookup ("__class__" : Str) = some .free ∧ scope.names.lookup ("super" : Str) = some .globalImplicit ∧
    scope.names.lookup me = some .local ∧ X.K.lookup f = some of ∧ of.data = .func fd ∧ (fd.params.posonlyargs ++ fd.params.args).head? = some ar ∧ ar.arg = me ∧ X.K.lookup cda = some oc ∧ oc.data = .fields vs ∧ vs[2]? = some (.str file tf) ∧
    ((X.prog.main.file : Str) == file) = true ∧ X.K.lookup cc = some occ ∧ occ.data = .cell (some (.ref D))
  top : (X.prog.main.scope.names.lookup ("super" : Str)).isSome = false
  mg : X.mg "super" = none
theorem SupAt.nox {X : Cx} {D : Addr} {me : Str} (h : SupAt X D me) : SupAt X.nox D me := ⟨h.ex, h.top, h.mg⟩
section
variable {CX : CXT} {P : Program} {w : World} {K : PySem.W.Frag} {mg : Str → Option Value} {base : Heap} {N ps : List Str} {x qual file : Str} {params : Arguments} {body : List Stmt} {scope : Scope} {dvs : List V} {kws : List (Str × V)} {D f cda cc : Addr} {fd : FuncData} {A : Around} {outer : List Env} {s : Shared} {H : Hp} {E : XK} {us : List Value} {vs : List V}
theorem inv_startS {h₁ : Heap} {tk : Nat} {oc : Obj} {v0 : Option Value} (S : SScope N ps scope) (hd : A.handled = none) (e0 : Env0 P w K mg base A outer s H) (hl : vs.length = ps.length) (r : Vals vs us) (hc : K.lookup cc = some oc) (hcd : oc.data = .cell v0)
    (hns : h₁.Ns s.heap.objs.size fun y => (ps.zip us).reverse.lookup y) (kp : ∀ b o, s.heap.get? b = some o → h₁.get? b = some o) :
    Inv (cxS CX P w K mg base N qual scope f cda cc A outer s H E) [] (L2.start N vs) H { s with heap := h₁, toks := tk } := by
  have hpl : ps.length ≤ N.length := by have := congrArg List.length S.pre; rw [List.length_take] at this; omega
  have noA : ∀ b : Addr, b ∉ (cxS CX P w K mg base N qual scope f cda cc A outer s H E).ex := fun b z => absurd (show b ∈ ([] : List Addr) from z) (by simp)
  have hcb : s.heap.get? cc = some oc ∧ H cc = none := e0.bs cc oc (e0.mod.kin _ _ hc)
  have lk1 : ∀ y c, (cxS CX P w K mg base N qual scope f cda cc A outer s H E).env.cells.lookup y = some c → y = "__class__" ∧ c = cc := by
    intro y c h
    have h' : ([(("__class__" : Str), cc)] : List (Str × Addr)).lookup y = some c := h
    rw [List.lookup_cons] at h'
    cases q : (y == ("__class__" : Str)) with
    | true =>
      rw [q] at h'
      exact ⟨eq_of_beq q, (Option.some.inj h').symm⟩
    | false =>
      rw [q] at h'
      cases h'
  refine ⟨⟨e0.mod, S.kind, rfl, rfl, Nat.le_refl _, fun y z c h1 h2 => (lk1 y c h1).1.trans (lk1 z c h2).1.symm, fun y hy => ?_, fun y c z _ => ?_, fun _ => hd, Around.frames_deeper e0.frames, .inr ⟨rfl, rfl⟩, fun b z => absurd z (noA b), e0.bs, e0.bsz, fun b _ _ => noA b,
      fun b z => absurd z (noA b), e0.funs, e0.frf⟩,
    rfl, e0.bare, Un.kept kp, ⟨_, hns, fun i y v e1 e2 e3 => ?_⟩, fun y c e => ?_, e0.hok.fresh (Nat.le_refl _), fun y c e => ?_, fun q hq => absurd (show q ∈ ([] : List (Addr × Obj)) ++ [] from hq) (by simp), e0.hok.kept kp, ?_⟩
  · have hy : scope.names.lookup y = some .cell ∨ scope.names.lookup y = some .free := hy
    rcases hy with hy | hy
    · exact absurd rfl (S.nocell _ (PySem.mem_of_lookup hy))
    · have ey := S.free _ (PySem.mem_of_lookup hy) rfl
      have ey : y = "__class__" := ey
      subst ey
      exact ⟨cc, by show ([(("__class__" : Str), cc)] : List (Str × Addr)).lookup ("__class__" : Str) = some cc; rw [List.lookup_cons]; simp⟩
  · have z : false = true := z
    cases z
  · have e1 : N[i]? = some y := e1
    unfold L2.start at e2
    by_cases h1 : i < ps.length
    · have hq : ps[i]? = some y := by
        rw [← S.pre, List.getElem?_take_of_lt h1]
        exact e1
      rw [List.getElem?_append_left (by rw [List.length_map]; omega), List.getElem?_map] at e2
      have ha : vs[i]? = some v := by
        cases e : vs[i]? with
        | none => rw [e] at e2; cases e2
        | some a => rw [e] at e2; cases e2; rfl
      obtain ⟨u, hu, rv⟩ := r.get ha
      have ndP : ps.Nodup := by rw [← S.pre]; exact S.nd.sublist (List.take_sublist _ _)
      exact ⟨u, rv, .inl ⟨S.par y (List.mem_of_getElem? hq), NdefX.zip_look ndP hq hu⟩⟩
    · rw [List.getElem?_append_right (by rw [List.length_map]; omega), List.getElem?_replicate] at e2
      split at e2 <;> cases e2
  · obtain ⟨_, rfl⟩ := lk1 y c e
    exact ⟨v0, _, kp _ _ hcb.1, hcd⟩
  · obtain ⟨_, rfl⟩ := lk1 y c e
    exact hcb.2
  · unfold L2.start
    show _ = N.length
    rw [List.length_append, List.length_map, List.length_replicate]
    omega

theorem cxS_K : (cxS CX P w K mg base N qual scope f cda cc A outer s H E).K = K := rfl
theorem cxS_Kx : (cxS CX P w K mg base N qual scope f cda cc A outer s H E).nox.K = K := rfl
/-- THE RULE: such a def by its body -/
theorem FunS.ok {k : Nat} {sp : Sp} {ar : Arg} (F : FunS K file x qual params body scope dvs kws D f fd) (S : SScope N ps scope) (hfile : (P.main.file : Str) = file) (htop : (P.main.scope.names.lookup ("super" : Str)).isSome = false) (hmg : mg "super" = none)
    (har : (params.posonlyargs ++ params.args).head? = some ar) (hself : scope.names.lookup ar.arg = some .local) (len : ∀ vs H Q E, sp vs H Q E → vs.length = ps.length)
    (hbody : ∀ (cda cc : Addr) (A : Around) (outer : List Env) (s : Shared) (H : Hp) (vs : List V) (Q : VK) (E : XK), Room k (A.deeper (envS qual scope s.heap.objs.size f cda cc)) → SupAt (cxS CX P w K mg base N qual scope f cda cc A outer s H E) D ar.arg → sp vs H Q E →
      ∃ t, PSsA (cxS CX P w K mg base N qual scope f cda cc A outer s H E) body body t ∧ t { nx := fun _ H' => Q .non H', rt := Q } (L2.start N vs) H) : FnOk P w K mg base CX (k + 1) f fd ps sp := by
  obtain ⟨oc, od, dV, kV, doc, pm, an, cda, cc, ct, osl, rfl, lk, hcd, hD, hK, ⟨cl, cld, csl, hcc⟩, ccl, cdd, vs0, ccs, tf, hco, hvs⟩ := F.ex
  refine ⟨len, fun A outer s H args us vs Q E hr e0 hb r hsp => ?_⟩
  have hl := len _ _ _ _ hsp
  have KX : K.In s.heap := e0.mod.kin.keeps fun b o e => (e0.bs b o e).1
  have lim : s.heap.NoLimit := e0.mod.nolimit.keeps fun b o e => (e0.bs b o e).1
  refine codeAny_call_function hr.depth (KX _ _ lk) rfl S.co S.gen rfl (PySem.W.codeRec_of KX hcd) (hb _ _ _ _ ?_)
  refine wpAny_newFunctionEnv S.nocell (fun ⟨n, v⟩ hy => S.par n (List.of_mem_zip hy).1) (fun h₁ hns hsb => ⟨lim.fresh _ hsb, ?_⟩) S.kind
  show codeAny _ _ (.func body (envS qual scope s.heap.objs.size f cda cc)) _ _
  refine ks_codeAny_funcAt ?_
  have kp : ∀ b o, s.heap.get? b = some o → h₁.get? b = some o := fun b o e => hsb.extBut b o (Nat.ne_of_lt (Heap.lt_size e)) (Heap.get?_push_of_some _ e)
  have sup : SupAt (cxS CX P w K mg base N qual scope f cda cc A outer s H E) D ar.arg :=
    ⟨⟨qual, scope, s.heap.objs.size, f, cda, cc, _, _, _, _, ar, vs0, file, tf, rfl, S.cl, S.su, hself, lk, rfl, har, rfl, hco, rfl, hvs, by show (P.main.file == file) = true; rw [hfile]; simp, hcc, rfl⟩, htop, hmg⟩
  obtain ⟨t, ht, hq⟩ := hbody cda cc A outer s H vs Q E (hr.deeper _) sup hsp
  have I : Inv (cxS CX P w K mg base N qual scope f cda cc A outer s H E) [] (L2.start N vs) H { s with heap := h₁, toks := s.toks + (ps.zip us).length } := inv_startS S hr.hd e0 hl r hcc rfl hns kp
  refine ks_wpAt_mono (ht.run [] _ (L2.start N vs) H _ I hq) (fun fl s' hs => ?_) fun e s' hs => hs
  have fin : ∀ {σ' : L2.St} {H' : Hp} {v : V} {u : Value}, Inv (cxS CX P w K mg base N qual scope f cda cc A outer s H E) [] σ' H' s' → RelV v u → Q v H' → CE outer P w H s Q u s' :=
    fun {σ' H' v u} J rv q => ⟨v, H', J.os, J.bare, J.base, J.hok, rv, q⟩
  cases fl with
  | ret u =>
    obtain ⟨v, σ', H', J, rv, q⟩ := hs
    exact fin J rv q
  | next =>
    obtain ⟨σ', H', J, q⟩ := hs
    exact fin (v := V.non) (u := Value.none) J rfl q
  | brk =>
    obtain ⟨_, _, _, q⟩ := hs
    exact False.elim q
  | cont =>
    obtain ⟨_, _, _, q⟩ := hs
    exact False.elim q
end
/-! ## super().m(..) -/
/-- an expression of a def whose code is known -/
structure PEA (X : Cx) (body : List Stmt) (e : Expr) (t : TE) : Prop where
  run : ∀ (pins : List (Addr × Obj)) (s : Shared) (σ : L2.St) (H : Hp) (Q : VK), Inv X pins σ H s → t σ H Q → PySem.wpAt (model X.prog X.w) X.A (.func body X.env) (eval e X.env) (EP X pins σ Q) X.xe s
/-- the instance in the first slot, the method by its class -/
def tSup (K : PySem.W.Frag) (n m : Nat) (as : List MA) (E : L2.St → XK) (t tk : TA) : TE := fun σ H Q => ∃ a C dx fs, σ[0]? = some (some (.ref a)) ∧ H a = some (.ins C dx fs) ∧ ∃ y ∈ as, y.C = C ∧
  t σ H fun vs H2 => tk σ H2 fun zs H3 => vs.length = n ∧ zs.length = m ∧ spA K y.c (perm y.ix ((.ref a :: vs) ++ (y.cvs ++ zs))) H3 Q (E σ)
/-- what such a call leans on -/
def SAok (X : Cx) (CX : CXT) (D : Addr) (mn : Str) (n : Nat) (ks : List Str) (y : MA) : Prop := ∃ (k : Nat) (f : Addr) (fd : FuncData) (ps : List Str) (cdD : ClassData), PySem.W.ks_superIn X.K y.C D mn = some (some (.ref f)) ∧ PySem.W.typeIn X.K (.ref f) = some (.type "function") ∧ PySem.W.fnIn X.K f = true ∧
  PySem.W.clsIn X.K D = some cdD ∧ PySem.W.mroIn X.K y.C (.ref D) = some true ∧ PySem.W.nsIn X.K cStatics "thirdparty.any" = some none ∧ FnOk X.prog X.w X.K X.mg X.base CX k f fd ps (spA X.K y.c) ∧ Room k X.A ∧ KBp X.K fd ps (n + 1) ks y.cvs y.ix
section
variable {X : Cx} {CX : CXT} {D : Addr} {me mn : Str} {n : Nat} {ks : List Str} {as : List MA} {E : L2.St → XK} {body : List Stmt} {e : Expr} {es : List Expr} {kws : List Keyword} {t tk : TA} {te : TE} {p0 p1 apos pos : Pos} {pl : Sem Bool}
theorem clsIn_at {K : PySem.W.Frag} {h : Heap} {D : Addr} {cd : ClassData} (X : K.In h) (e : PySem.W.clsIn K D = some cd) : ∃ oD, h.get? D = some oD ∧ oD.data = .cls cd := by
  unfold PySem.W.clsIn at e
  split at e
  · rename_i c d cd' sl ho
    cases e
    exact ⟨_, X _ _ ho, rfl⟩
  · cases e
/-- super() -/
theorem super_ok {pins : List (Addr × Obj)} {s : Shared} {σ : L2.St} {H : Hp} {a C : Addr} {ox : Obj} {od : Option Obj} {cdD : ClassData} {whole : Sem Value} {Q : Value → Shared → Prop} (S : SupAt X D me) (hN : X.N[0]? = some me) (hat : (mn == ("__class__" : Str)) = false)
    (I : Inv X pins σ H s) (ha : σ[0]? = some (some (.ref a))) (J : PySem.W.InstAt s.heap a ox C od) (hD : PySem.W.clsIn X.K D = some cdD) (hm : PySem.W.mroIn X.K C (.ref D) = some true)
    (h : ∀ h', (∀ b o, s.heap.get? b = some o → h'.get? b = some o) → h'.get? s.heap.objs.size = some (PySem.W.ks_superObj D a C) → Q (.ref s.heap.objs.size) { s with heap := h' }) :
    PySem.wpAt (model X.prog X.w) X.A (.func body X.env) (attributeBase (.Call (.Name "super" p0) [] [] p1) mn X.env whole) Q X.xe s := by
  obtain ⟨⟨q, scope, L, f, cda, cc, of, oc, occ, fd, ar, vs, file, tf, henv, hcl, hsu, hme, hf, hfd, har, hself, hco, hvd, hvs, hfile, hcc, hcd⟩, htop, hmg⟩ := S
  have KI := I.kIn
  obtain ⟨oD, hD1, hD2⟩ := clsIn_at KI hD
  obtain ⟨m, hns, hloc⟩ := I.loc
  have hk := I.ok.kind
  have vis : Vis X.env.scope me := .inl (by rw [henv]; exact hme)
  obtain ⟨u, ru, lk⟩ := hloc 0 me (.ref a) hN ha vis
  obtain rfl : u = Value.ref a := ru
  have hmk : X.env.kindOf me = some .local := by rw [henv]; exact hme
  have hmv : m me = some (.ref a) := by
    rcases lk with ⟨_, z⟩ | ⟨z | z, _⟩
    · exact z
    · rw [hmk] at z; cases z
    · rw [hmk] at z; cases z
  obtain ⟨mb, b1, b2⟩ := I.mod.blt
  refine ks_wpAt_super_base (env := X.env) (f := f) (cc := cda) (by rw [henv]; exact hsu) (by rw [henv]; exact hcl) hat (by rw [henv]) (KI _ _ hf) hfd har (by rw [henv]) (KI _ _ hco) hvd hvs hfile htop ?_
  refine PySem.W.ks_loadName_global hk (by rw [henv]; exact hsu) (Calls.loadGlobal_builtin (by rw [I.ok.glob]; exact I.mod.glob.keeps I.bk) hmg (by rw [I.ok.blt]; exact b1.keeps I.bk) ((b2 _ (by decide)).trans (by rfl : bootBuiltins "super" = some (.type "super"))) ⟨rfl, ?_⟩)
  refine wpAny_loadName_free hk (by rw [henv]; exact hcl) (by rw [henv]; rfl) ⟨occ, KI _ _ hcc, hcd⟩ ?_
  rw [hself]
  refine wpAny_loadName_local hk hmk hns hmv ?_
  refine ks_wpAny_isType_cls hD1 hD2 ⟨rfl, ?_⟩
  obtain ⟨hh, g, d, tt, os⟩ := s
  refine ks_wpAny_call_super hD1 hD2 J.at_ J.cls (fun c e => ?_) (PySem.W.looks_mroIn KI hm) (fun h' e k => ?_)
  · have := J.no
    unfold PySem.W.notCls at this
    rw [e] at this
    exact Bool.noConfusion this
  · exact h h' k e
/-- super().m as a bound method, new -/
theorem getsup_ok {pins : List (Addr × Obj)} {s : Shared} {σ : L2.St} {H : Hp} {a C so f2 : Addr} {ox : Obj} {od : Option Obj} {A : Around} {E : Value → Shared → Prop} {Q : Value × List Value → Shared → Prop} (I : Inv X pins σ H s) (J : PySem.W.InstAt s.heap a ox C od) (hn : (mn == ("__class__" : Str)) = false)
    (hso : s.heap.get? so = some (PySem.W.ks_superObj D a C)) (ho : PySem.W.nsIn X.K cStatics "thirdparty.any" = some none) (hm : PySem.W.ks_superIn X.K C D mn = some (some (.ref f2))) (ht : PySem.W.typeIn X.K (.ref f2) = some (.type "function"))
    (h : ∀ s', Inv X ((s.heap.objs.size, PySem.W.methodObj (.ref f2) (.ref a)) :: pins) σ H s' → Q (.ref s.heap.objs.size, []) s') : wpAny (model X.prog X.w) A (getMethod (.ref so) mn pl) Q E s := by
  have KI := I.kIn
  cases hc : PySem.W.clsIn X.K C with
  | none => unfold PySem.W.ks_superIn at hm; rw [hc] at hm; cases hm
  | some cd =>
    unfold PySem.W.ks_superIn at hm
    rw [hc] at hm
    have hne := PySem.W.ks_ne KI J hc
    have push := h _ (ClX.pin_new (o := PySem.W.methodObj (.ref f2) (.ref a)) (t' := s.toks + 1) I (fun _ _ z => Heap.get?_push_of_some _ z) (Nat.le_refl _) (Heap.get?_push_size s.heap rfl) (fun v z => nomatch z))
    obtain ⟨hh, g, d, t, os⟩ := s
    obtain ⟨of, hof, hofc⟩ : ∃ of, hh.get? f2 = some of ∧ of.cls = .type "function" := by
      have ht' : (X.K.lookup f2).map (·.cls) = some (.type "function") := ht
      cases z : X.K.lookup f2 with
      | none => rw [z] at ht'; cases ht'
      | some of => rw [z] at ht'; exact ⟨of, KI _ _ z, Option.some.inj ht'⟩
    refine ks_wpAny_getMethod_super hso (PySem.W.looks_opaque KI ho) (l₀ := cd.mro) ?_ rfl KI hm hof hofc hne hn ?_
    · exact fun A Q E s k q => wpAny_bind ((PySem.W.looks_clsIn KI hc) A _ E s k (wpAny_pure q))
    · exact push
/-- the call of such a record -/
theorem run_sup {pins : List (Addr × Obj)} {s : Shared} {σ : L2.St} {H : Hp} {q a f : Addr} {k m : Nat} {fd : FuncData} {ps : List Str} {sp : Sp} {cvs : List V} {ix : List Nat} {Q : VK} {us ws : List Value} {vs zs : List V} {E : XK} (F : FnOk X.prog X.w X.K X.mg X.base CX k f fd ps sp) (hr : Room k X.A) (hx : PassesAt CX X σ E) (hb : KBp X.K fd ps m ks cvs ix)
    (I : Inv X ((q, PySem.W.methodObj (.ref f) (.ref a)) :: pins) σ H s) (r : Vals vs us) (rz : Vals zs ws) (l1 : (V.ref a :: vs).length = m) (l2 : zs.length = ks.length) (h : sp (perm ix ((V.ref a :: vs) ++ (cvs ++ zs))) H Q E) :
    wpAny (model X.prog X.w) X.A (call (.ref q) us (ks.zip ws)) (EP X pins σ Q) X.xe s := by
  obtain ⟨cs, hb⟩ := hb
  have r0 : Vals (V.ref a :: vs) (Value.ref a :: us) := .cons rfl r
  have r2 := hb.rel r0 rz
  have z : wpAny (model X.prog X.w) X.A (call (.ref q) us (ks.zip ws)) (EP X ((q, PySem.W.methodObj (.ref f) (.ref a)) :: pins) σ Q) X.xe s := by
    refine wpAny_call (PySem.W.method_call (ClX.pin_at I) (codeAny_mono (F.run X.A X.stack s H ⟨.ref a :: us, ks.zip ws⟩ _ _ Q E hr I.env0 (hb.to s (.ref a :: us) ws I.kIn (r0.length.symm.trans l1) (rz.length.symm.trans l2)) r2 h) fun r s' hq => ?_))
    cases r with
    | error e => exact hx _ H s e s' I hq
    | ok fl =>
      cases fl with
      | ret u => exact I.after hq
      | next => exact False.elim hq
      | brk => exact False.elim hq
      | cont => exact False.elim hq
  exact thn z fun _ _ y => ClX.unpinE y
theorem ins_at {pins : List (Addr × Obj)} {s : Shared} {σ : L2.St} {H : Hp} {a C dx : Addr} {fs : List (Str × V)} (I : Inv X pins σ H s) (e : H a = some (.ins C dx fs)) : ∃ ox od, PySem.W.InstAt s.heap a ox C (some od) := by
  obtain ⟨mA, O, rr, _, _, _⟩ := ins_get I.hok e
  obtain ⟨od, J, hl⟩ := O.look
  exact ⟨_, od, J⟩
/-- super().m(e, .., k = v, ..) -/
theorem pea_sup (S : SupAt X D me) (hN : X.N[0]? = some me) (hat : (mn == ("__class__" : Str)) = false) (hy : ∀ y ∈ as, SAok X CX D mn n ks y) (hx : ∀ σ, PassesAt CX X σ (E σ)) (ha : PA X (e :: es) t) (hkw : PK X kws tk)
    (hall : (backToKw pos (keywordEach kws X.env)).all (·.1.isSome) = true := by rfl) (hks : (backToKw pos (keywordEach kws X.env)).filterMap (·.1) = ks := by rfl)
    (hst : starEach (e :: es) X.env = (false, eval e X.env) :: starEach es X.env := by rfl) (hpl : ((backTo pos (starEach (e :: es) X.env)).any (·.1) || (backToKw pos (keywordEach kws X.env)).any (·.1.isNone)) = false := by rfl)
    (ht : eval (.Call (.Attribute (.Call (.Name "super" p0) [] [] p1) mn apos) (e :: es) kws pos) X.env = (do
      let ov ← attributeBase (.Call (.Name "super" p0) [] [] p1) mn X.env (eval (.Call (.Name "super" p0) [] [] p1) X.env)
      standAt apos.atName
      let (f, first) ← holding [ov] (getMethod ov mn pl)
      callWith pos f first (backTo pos (starEach (e :: es) X.env)) (backToKw pos (keywordEach kws X.env))) := by rfl) :
    PEA X body (.Call (.Attribute (.Call (.Name "super" p0) [] [] p1) mn apos) (e :: es) kws pos) (tSup X.K n ks.length as E t tk) := by
  refine ⟨fun pins s σ H Q I h => ?_⟩
  obtain ⟨a, C, dx, fs, hσ, ea, y, hm, rfl, q⟩ := h
  obtain ⟨k, f, fd, ps, cdD, h1, h2, h3, h4, h5, h6, F, hr, hb⟩ := hy y hm
  obtain ⟨ox, od, J⟩ := ins_at I ea
  rw [ht]
  refine PySem.wpAt_bind (super_ok S hN hat I hσ J h4 h5 fun h' kp hso => ?_)
  have I2 : Inv X pins σ H { s with heap := h' } := I.kept (t' := s.toks) kp
  refine wpAt_of_wpAny (wpAny_bind (wpAny_standAt (wpAny_bind (wpAny_holding ?_))))
  obtain ⟨ox2, od2, J2⟩ := ins_at I2 ea
  refine getsup_ok (so := s.heap.objs.size) I2 J2 hat hso h6 h1 h2 fun s2 I3 => ?_
  refine PySem.W.callWith_of (first := []) hpl (PySem.W.keeps_M (self := Value.ref a) h3) (evalArgs_kw2 hall (thn (ha.run pos _ s2 σ H _ I3 q) fun us s3 ⟨vs, H2, I4, r, q2⟩ => thn (hkw.run pos _ s3 σ H2 _ I4 q2) fun ws s4 ⟨zs, H3, I5, rz, l1, l2, q3⟩ => ?_) hst)
  refine ⟨⟨ClX.pin_at I5, I5.kIn⟩, ?_⟩
  rw [hks]
  exact run_sup F hr (hx σ) hb I5 r rz (congrArg Nat.succ l1) l2 q3
theorem pea_sup0 (S : SupAt X D me) (hN : X.N[0]? = some me) (hat : (mn == ("__class__" : Str)) = false) (hy : ∀ y ∈ as, SAok X CX D mn 0 ks y) (hx : ∀ σ, PassesAt CX X σ (E σ)) (hkw : PK X kws tk)
    (hall : (backToKw pos (keywordEach kws X.env)).all (·.1.isSome) = true := by rfl) (hks : (backToKw pos (keywordEach kws X.env)).filterMap (·.1) = ks := by rfl)
    (hpl : ((backTo pos (starEach [] X.env)).any (·.1) || (backToKw pos (keywordEach kws X.env)).any (·.1.isNone)) = false := by rfl)
    (ht : eval (.Call (.Attribute (.Call (.Name "super" p0) [] [] p1) mn apos) [] kws pos) X.env = (do
      let ov ← attributeBase (.Call (.Name "super" p0) [] [] p1) mn X.env (eval (.Call (.Name "super" p0) [] [] p1) X.env)
      standAt apos.atName
      let (f, first) ← holding [ov] (getMethod ov mn pl)
      callWith pos f first (backTo pos (starEach [] X.env)) (backToKw pos (keywordEach kws X.env))) := by rfl) :
    PEA X body (.Call (.Attribute (.Call (.Name "super" p0) [] [] p1) mn apos) [] kws pos) (tSup X.K 0 ks.length as E tNil tk) := by
  refine ⟨fun pins s σ H Q I h => ?_⟩
  obtain ⟨a, C, dx, fs, hσ, ea, y, hm, rfl, q⟩ := h
  obtain ⟨k, f, fd, ps, cdD, h1, h2, h3, h4, h5, h6, F, hr, hb⟩ := hy y hm
  obtain ⟨ox, od, J⟩ := ins_at I ea
  rw [ht]
  refine PySem.wpAt_bind (super_ok S hN hat I hσ J h4 h5 fun h' kp hso => ?_)
  have I2 : Inv X pins σ H { s with heap := h' } := I.kept (t' := s.toks) kp
  refine wpAt_of_wpAny (wpAny_bind (wpAny_standAt (wpAny_bind (wpAny_holding ?_))))
  obtain ⟨ox2, od2, J2⟩ := ins_at I2 ea
  refine getsup_ok (so := s.heap.objs.size) I2 J2 hat hso h6 h1 h2 fun s2 I3 => ?_
  refine PySem.W.callWith_of (first := []) hpl (PySem.W.keeps_M (self := Value.ref a) h3) (evalArgs_kw2_nil hall (thn (hkw.run pos _ s2 σ H _ I3 q) fun ws s4 ⟨zs, H3, I5, rz, l1, l2, q3⟩ => ?_))
  refine ⟨⟨ClX.pin_at I5, I5.kIn⟩, ?_⟩
  rw [hks]
  exact run_sup (us := []) (vs := []) F hr (hx σ) hb I5 .nil rz rfl l2 q3
/-- as a statement; returned -/
theorem psa_expr (h : PEA X body e te) (hs : swapsWith e none pos.line X.env = pure false := by rfl) : PSA X body (.Expr e pos) (tDrop te) := by
  refine ⟨fun pins s σ H D I q => ?_⟩
  refine ks_wpAt_Expr_any (ks_wpAt_mono (h.run pins s σ H _ I q) (fun u s1 z => ?_) fun _ _ z => z) I.quiet hs
  obtain ⟨v, H1, I1, _, q1⟩ := z
  exact ⟨σ, H1, I1, q1⟩
theorem psa_ret (h : PEA X body e te) : PSA X body (.Return (some e) pos) (tRet te) := by
  refine ⟨fun pins s σ H D I q => ?_⟩
  refine ks_wpAt_Return_some (ks_wpAt_mono (h.run pins s σ H _ I q) (fun u s1 z => ?_) fun _ _ z => z)
  obtain ⟨v, H1, I1, r, q1⟩ := z
  exact ⟨v, σ, H1, I1, r, q1⟩
end
/-! ## how a def binds, its closure left out -/
structure FunB (K : PySem.W.Frag) (x qual : Str) (params : Arguments) (body : List Stmt) (scope : Scope) (dvs : List V) (kws : List (Str × V)) (fd : FuncData) : Prop where
  ex : ∃ (cl : List (Str × Addr)) (dV kV doc pm : Value) (an : Option Addr) (cdv ct : Value), fd = PySem.W.fnX x qual params body scope cl dV kV doc pm an cdv ct ∧ DflV K dV dvs ∧ KwdV K kV kws
section
variable {K : PySem.W.Frag} {file x qual : Str} {params : Arguments} {body : List Stmt} {scope : Scope} {dvs : List V} {kws : List (Str × V)} {D f : Addr} {fd : FuncData} {ps : List Str}
theorem b_of (F : FunD K x qual params body scope dvs kws f fd) : FunB K x qual params body scope dvs kws fd := by
  obtain ⟨oc, od, dV, kV, doc, pm, an, cdv, ct, osl, e, lk, hcd, hD, hK⟩ := F.ex
  exact ⟨[], dV, kV, doc, pm, an, cdv, ct, e, hD, hK⟩
theorem b_ofS (F : FunS K file x qual params body scope dvs kws D f fd) : FunB K x qual params body scope dvs kws fd := by
  obtain ⟨oc, od, dV, kV, doc, pm, an, cda, cc, ct, osl, e, lk, hcd, hD, hK, _⟩ := F.ex
  exact ⟨[("__class__", cc)], dV, kV, doc, pm, an, .ref cda, ct, e, hD, hK⟩
theorem kb00 (F : FunB K x qual params body scope [] kws fd) (n : Nat) (ks : List Str) (ix : List Nat)
    (h : ∀ (cl : List (Str × Addr)) (kV doc pm : Value) (an : Option Addr) (cdv ct : Value) (us ws : List Value), us.length = n → ws.length = ks.length → bindArgs (PySem.W.fnX x qual params body scope cl .none kV doc pm an cdv ct) ⟨us, ks.zip ws⟩ = pure (ps.zip (perm ix (us ++ ws)))) : KBp K fd ps n ks [] ix := by
  obtain ⟨cl, dV, kV, doc, pm, an, cdv, ct, rfl, hD, hK⟩ := F.ex
  rcases hD with ⟨_, rfl⟩ | ⟨e, _⟩
  · exact ⟨[], fun s us ws _ l1 l2 => .of_eq (h cl kV doc pm an cdv ct us ws l1 l2), fun r1 r2 => perm_paired (r1.append r2) ix⟩
  · exact absurd rfl e
theorem kb10 (F : FunB K x qual params body scope dvs kws fd) (hd : dvs ≠ []) (n : Nat) (ks : List Str) (ix : List Nat)
    (h : ∀ (cl : List (Str × Addr)) (T : Addr) (kV doc pm : Value) (an : Option Addr) (cdv ct : Value) (us its ws : List Value), us.length = n → its.length = dvs.length → ws.length = ks.length →
      ∃ k, bindArgs (PySem.W.fnX x qual params body scope cl (.ref T) kV doc pm an cdv ct) ⟨us, ks.zip ws⟩ = seqItems? (.ref T) >>= k ∧ k (some its.toArray) = pure (ps.zip (perm ix (us ++ (its ++ ws))))) : KBp K fd ps n ks dvs ix := by
  obtain ⟨cl, dV, kV, doc, pm, an, cdv, ct, rfl, hD, hK⟩ := F.ex
  rcases hD with ⟨e, _⟩ | ⟨_, T, o, its, m, rfl, lT, oT, rT⟩
  · exact absurd e hd
  · refine ⟨its, fun s us ws X l1 l2 => ?_, fun r1 r2 => perm_paired (r1.append (rT.append r2)) ix⟩
    obtain ⟨k, e1, e2⟩ := h cl T kV doc pm an cdv ct us its ws l1 rT.length.symm l2
    refine BindsTo.of_looks fun M => ?_
    rw [e1]
    exact looks_items X lT oT (.of_pure e2)
theorem kb01 (F : FunB K x qual params body scope [] kws fd) (n : Nat) (ks : List Str) (ms : List (Str × V)) (ix : List Nat) (hk : kws ≠ []) (hms : ∀ q ∈ ms, q ∈ kws)
    (h : ∀ (cl : List (Str × Addr)) (D : Addr) (doc pm : Value) (an : Option Addr) (cdv ct : Value) (us mv ws : List Value), us.length = n → mv.length = ms.length → ws.length = ks.length →
      KwChain D ((ms.map (·.1)).zip mv) (bindArgs (PySem.W.fnX x qual params body scope cl .none (.ref D) doc pm an cdv ct) ⟨us, ks.zip ws⟩) (ps.zip (perm ix (us ++ (mv ++ ws))))) : KBp K fd ps n ks (ms.map (·.2)) ix := by
  obtain ⟨cl, dV, kV, doc, pm, an, cdv, ct, rfl, hD, hK⟩ := F.ex
  rcases hD with ⟨_, rfl⟩ | ⟨e, _⟩
  · rcases hK with e | ⟨D, rfl, hq⟩
    · exact absurd e hk
    · obtain ⟨mv, hl, rk, hks⟩ := kwd_vals (K := K) (D := D) (ms := ms) fun q hq' => hq q (hms q hq')
      exact ⟨mv, fun s us ws X l1 l2 => BindsTo.of_looks fun M => KwChain.looks X hks (h cl D doc pm an cdv ct us mv ws l1 hl l2), fun r1 r2 => perm_paired (r1.append (rk.append r2)) ix⟩
  · exact absurd rfl e
end
/-! ## methods, by their classes -/
structure Cm (P : Program) (w : World) (K : PySem.W.Frag) (mg : Str → Option Value) (base : Heap) (cx : CXT) (at_ : Str × Option Str) (x qual : Str) (st : Stmt) (dvs : List V) (kws : List (Str × V)) (k : Nat) (ps : List Str) (c : ASp) : Prop where
  ex : ∃ fd : FuncData, FnOk P w K mg base cx k (He.fAd K at_) fd ps (spA K c) ∧ FunB K x qual (defArgs st) (defBody st) (defScope st) dvs kws fd ∧ PySem.W.keepIn K (.ref (He.fAd K at_)) = true
section
variable {fs : List Fct} {fn : List DefQ} {K : PySem.W.Frag} {mg : Str → Option Value} {P : Program} {w : World} {base : Heap} {cx : CXT} {at_ : Str × Option Str} {x qual : Str} {st : Stmt} {dfl : List He.Dv} {kwd : List (Str × He.Dv)} {k : Nat} {ps : List Str} {c : ASp}
theorem cm_of (T : Top fs fn K mg) (i : Nat) (hi : fn[i]? = some (dm at_ x qual st dfl kwd none))
    (ok : ∀ fd, FunD K x qual (defArgs st) (defBody st) (defScope st) (dfl.map (He.Dv.v K)) (kwd.map fun q => (q.1, q.2.v K)) (He.fAd K at_) fd → FnOk P w K mg base cx k (He.fAd K at_) fd ps (spA K c)) : Cm P w K mg base cx at_ x qual st (dfl.map (He.Dv.v K)) (kwd.map fun q => (q.1, q.2.v K)) k ps c := by
  obtain ⟨fd, F⟩ := T.def_ i hi rfl
  have F' : FunD K x qual (defArgs st) (defBody st) (defScope st) (dfl.map (He.Dv.v K)) (kwd.map fun q => (q.1, q.2.v K)) (He.fAd K at_) fd := F
  exact ⟨fd, ok fd F', b_of F', F'.kp⟩
/-- a static or class method -/
structure Cr (P : Program) (w : World) (K : PySem.W.Frag) (mg : Str → Option Value) (base : Heap) (cx : CXT) (at_ : Str × Option Str) (x qual : Str) (st : Stmt) (dvs : List V) (kws : List (Str × V)) (k : Nat) (ps : List Str) (c : ASp) : Prop where
  ex : ∃ fd : FuncData, FnOk P w K mg base cx k (recG K (He.fAd K at_)) fd ps (spA K c) ∧ FunB K x qual (defArgs st) (defBody st) (defScope st) dvs kws fd ∧ PySem.W.keepIn K (.ref (recG K (He.fAd K at_))) = true
theorem cr_of (T : Top fs fn K mg) (i : Nat) (hi : fn[i]? = some (dr at_ x qual st dfl kwd))
    (ok : ∀ fd, FunD K x qual (defArgs st) (defBody st) (defScope st) (dfl.map (He.Dv.v K)) (kwd.map fun q => (q.1, q.2.v K)) (recG K (He.fAd K at_)) fd → FnOk P w K mg base cx k (recG K (He.fAd K at_)) fd ps (spA K c)) : Cr P w K mg base cx at_ x qual st (dfl.map (He.Dv.v K)) (kwd.map fun q => (q.1, q.2.v K)) k ps c := by
  obtain ⟨fd, F⟩ := T.def_ i hi rfl
  have F' : FunD K x qual (defArgs st) (defBody st) (defScope st) (dfl.map (He.Dv.v K)) (kwd.map fun q => (q.1, q.2.v K)) (recG K (He.fAd K at_)) fd := F
  exact ⟨fd, ok fd F', b_of F', F'.kp⟩
theorem cm_sup {file cn : Str} (T : Top fs fn K mg) (i : Nat) (hi : fn[i]? = some (dm at_ x qual st dfl kwd (some (file, cn))))
    (ok : ∀ fd, FunS K file x qual (defArgs st) (defBody st) (defScope st) (dfl.map (He.Dv.v K)) (kwd.map fun q => (q.1, q.2.v K)) (He.ga K cn) (He.fAd K at_) fd → FnOk P w K mg base cx k (He.fAd K at_) fd ps (spA K c)) : Cm P w K mg base cx at_ x qual st (dfl.map (He.Dv.v K)) (kwd.map fun q => (q.1, q.2.v K)) k ps c := by
  obtain ⟨fd, F⟩ := T.defS i hi rfl
  have F' : FunS K file x qual (defArgs st) (defBody st) (defScope st) (dfl.map (He.Dv.v K)) (kwd.map fun q => (q.1, q.2.v K)) (He.ga K cn) (He.fAd K at_) fd := F
  exact ⟨fd, ok fd F', b_ofS F', F'.kp⟩
end
section
variable {X : Cx} {K : PySem.W.Frag} {cx : CXT} {cn m x qual : Str} {st : Stmt} {dvs : List V} {kwl : List (Str × V)} {k j n : Nat} {ps ks : List Str} {c : ASp} {cvs : List V} {ces : List Ent} {ix : List Nat} {D : Addr} {dn : Str} {cdD : ClassData}
theorem mao_of (h : X.K = K) (hc : (He.Fa.cls cn).ok K = true) (hm : (He.Fa.meth cn m).ok K = true) (C : Cm X.prog X.w K X.mg X.base cx (cn, some m) x qual st dvs kwl k ps c) (hr : Room j X.A) (hk : k ≤ j) (hb : ∀ fd, FunB K x qual (defArgs st) (defBody st) (defScope st) dvs kwl fd → KBp K fd ps (n + 1) ks cvs ix) : MAok X cx m n ks ⟨He.ga K cn, c, cvs, ces, ix⟩ := by
  subst h
  obtain ⟨fd, F, B, kp⟩ := C.ex
  exact ⟨k, _, fd, ps, He.cls_ok hc, He.meth_ok hm, F, hr.mono hk, hb fd B⟩
/-- super().m in a def of the class dn, for an instance of the class cn -/
def fSup (cn dn m bn : Str) : Fct := fun K => decide (PySem.W.ks_superIn K (He.ga K cn) (He.ga K dn) m = some (some (.ref (He.ma K (He.ga K bn) m)))) && (decide (PySem.W.typeIn K (.ref (He.ma K (He.ga K bn) m)) = some (.type "function")) && (PySem.W.fnIn K (He.ma K (He.ga K bn) m) && ((PySem.W.clsIn K (He.ga K dn)).isSome &&
  (decide (PySem.W.mroIn K (He.ga K cn) (.ref (He.ga K dn)) = some true) && decide (PySem.W.nsIn K cStatics "thirdparty.any" = some none)))))
theorem sao_of {bn : Str} (h : X.K = K) (hs : fSup cn dn m bn K = true) (C : Cm X.prog X.w K X.mg X.base cx (bn, some m) x qual st dvs kwl k ps c) (hr : Room j X.A) (hk : k ≤ j) (hb : ∀ fd, FunB K x qual (defArgs st) (defBody st) (defScope st) dvs kwl fd → KBp K fd ps (n + 1) ks cvs ix) : SAok X cx (He.ga K dn) m n ks ⟨He.ga K cn, c, cvs, ces, ix⟩ := by
  subst h
  obtain ⟨fd, F, B, kp⟩ := C.ex
  obtain ⟨a1, hs⟩ := He.ba hs
  obtain ⟨a2, hs⟩ := He.ba hs
  obtain ⟨a3, hs⟩ := He.ba hs
  obtain ⟨a4, hs⟩ := He.ba hs
  obtain ⟨a5, a6⟩ := He.ba hs
  obtain ⟨cdD, a4⟩ := Option.isSome_iff_exists.mp a4
  exact ⟨k, _, fd, ps, cdD, of_decide_eq_true a1, of_decide_eq_true a2, a3, a4, of_decide_eq_true a5, of_decide_eq_true a6, F, hr.mono hk, hb fd B⟩
variable {E : L2.St → XK} {p pos : Pos} {e : Expr} {es : List Expr} {kws : List Keyword} {t tk : TA}
/-- C(.., k = v, ..) -/
theorem ke_mk0 (h : X.K = K) (hk : (He.Fa.mkr cn).ok K = true) (C : Cm X.prog X.w K X.mg X.base cx (cn, some ("__init__" : Str)) x qual st dvs kwl k ps c) (hr : Room j X.A) (hj : k + 1 ≤ j) (hg : Gl X cn) (hm : X.mg cn = some (.ref (He.ga K cn))) (hb : ∀ fd, FunB K x qual (defArgs st) (defBody st) (defScope st) dvs kwl fd → KBp K fd ps 1 ks cvs ix) (hx : ∀ σ, PassesAt cx X σ (E σ))
    (hkw : PK X kws tk) (hall : (backToKw pos (keywordEach kws X.env)).all (·.1.isSome) = true := by rfl) (hks : (backToKw pos (keywordEach kws X.env)).filterMap (·.1) = ks := by rfl) (hdb : (cn == ("__debug__" : Str)) = false := by decide)
    (hpl : ((backTo pos (starEach [] X.env)).any (·.1) || (backToKw pos (keywordEach kws X.env)).any (·.1.isNone)) = false := by rfl) : PE X (.Call (.Name cn p) [] kws pos) (tMkN (He.ga K cn) 0 ks.length (spA K c) cvs ix E tNil tk) := by
  subst h
  obtain ⟨fd, F, B, kp⟩ := C.ex
  exact pe_mkN0 (He.mkr_ok hk) F (hr.mono hj) hg hm (hb fd B) hx hkw hall hks hdb hpl
theorem ke_mk (h : X.K = K) (hk : (He.Fa.mkr cn).ok K = true) (C : Cm X.prog X.w K X.mg X.base cx (cn, some ("__init__" : Str)) x qual st dvs kwl k ps c) (hr : Room j X.A) (hj : k + 1 ≤ j) (hg : Gl X cn) (hm : X.mg cn = some (.ref (He.ga K cn))) (hb : ∀ fd, FunB K x qual (defArgs st) (defBody st) (defScope st) dvs kwl fd → KBp K fd ps (n + 1) ks cvs ix) (hx : ∀ σ, PassesAt cx X σ (E σ))
    (ha : PA X (e :: es) t) (hkw : PK X kws tk) (hall : (backToKw pos (keywordEach kws X.env)).all (·.1.isSome) = true := by rfl) (hks : (backToKw pos (keywordEach kws X.env)).filterMap (·.1) = ks := by rfl) (hdb : (cn == ("__debug__" : Str)) = false := by decide)
    (he : starEach (e :: es) X.env = (false, eval e X.env) :: starEach es X.env := by rfl) (hpl : ((backTo pos (starEach (e :: es) X.env)).any (·.1) || (backToKw pos (keywordEach kws X.env)).any (·.1.isNone)) = false := by rfl) :
    PE X (.Call (.Name cn p) (e :: es) kws pos) (tMkN (He.ga K cn) n ks.length (spA K c) cvs ix E t tk) := by
  subst h
  obtain ⟨fd, F, B, kp⟩ := C.ex
  exact pe_mkN (He.mkr_ok hk) F (hr.mono hj) hg hm (hb fd B) hx ha hkw hall hks hdb he hpl
/-! ### fields -/
theorem fo_nil {f : Str} : ∀ C ∈ ([] : List Addr), Cls K C ∧ NoAttr K C f := fun _ h => by cases h
theorem fo_cons {f : Str} {Cs : List Addr} (hc : (He.Fa.cls cn).ok K = true) (hn : (He.Fa.noat cn f).ok K = true) (h : ∀ C ∈ Cs, Cls K C ∧ NoAttr K C f) : ∀ C ∈ He.ga K cn :: Cs, Cls K C ∧ NoAttr K C f := fun C hC => by
  rcases List.mem_cons.mp hC with rfl | hC
  · exact ⟨He.cls_ok hc, He.noat_ok hn⟩
  · exact h C hC
theorem ke_fld {f : Str} {Cs : List Addr} {ta : TE} (h : X.K = K) (he : PE X e ta) (hc : ∀ C ∈ Cs, Cls K C ∧ NoAttr K C f) (hb : attributeBase e f X.env (eval e X.env) = eval e X.env := by rfl) : PE X (.Attribute e f pos) (tFldS Cs f ta) := pe_fldS he (h ▸ hc) hb
theorem ks_fld {f : Str} {Cs : List Addr} {o value : Expr} {ta tv : TE} {pos' : Pos} (h : X.K = K) (ha : PE X o ta) (hv : PE X value tv) (hc : ∀ C ∈ Cs, Cls K C ∧ NoAttr K C f) (hs : swapsWith value (some (.Attribute o f pos')) pos.line X.env = pure false := by rfl) : PS X (.Assign [.Attribute o f pos'] value pos) (sFldS Cs ta tv f) := ps_fldS ha hv (h ▸ hc) hs
theorem ma_nil : ∀ y ∈ ([] : List MA), MAok X cx m n ks y := fun _ h => by cases h
theorem ma_cons {y : MA} {as : List MA} (h1 : MAok X cx m n ks y) (h : ∀ y ∈ as, MAok X cx m n ks y) : ∀ z ∈ y :: as, MAok X cx m n ks z := fun z hz => by
  rcases List.mem_cons.mp hz with rfl | hz
  · exact h1
  · exact h z hz
theorem sa_nil : ∀ y ∈ ([] : List MA), SAok X cx D m n ks y := fun _ h => by cases h
theorem sa_cons {y : MA} {as : List MA} (h1 : SAok X cx D m n ks y) (h : ∀ y ∈ as, SAok X cx D m n ks y) : ∀ z ∈ y :: as, SAok X cx D m n ks z := fun z hz => by
  rcases List.mem_cons.mp hz with rfl | hz
  · exact h1
  · exact h z hz
end
section
variable {J : Jx} {Γ : Ga} {M : Ms} {P : Ent → Ms → Prop} {t tk : TA} {n m : Nat} {as : List MA}
def SupK (J : Jx) (Γ : Ga) (M : Ms) (as : List MA) (t tk : TA) (n m : Nat) (P : Ent → Ms → Prop) (X : Xa) : Prop := ∃ x C fs, Γ[0]? = some (some x) ∧ OV M x C fs ∧ ∃ y ∈ as, y.C = C ∧
    WA J t Γ M fun es M2 => WA J tk Γ M2 fun zs M3 => es.length = n ∧ zs.length = m ∧ Fr y.c (perm y.ix ((x :: es) ++ (y.ces ++ zs))) M3 P X
theorem w_sup {E : L2.St → XK} {X : Ga → Xa} (l : Lets J E X) (hd : ∀ y ∈ as, CVs y.cvs y.ces) (h : SupK J Γ M as t tk n m P (X Γ)) : Wx J (tSup J.K n m as E t tk) Γ M P := fun F Z σ H en mm xr Q q => by
  obtain ⟨x, C, fs, hΓ, ho, y, hy, ec, h1⟩ := h
  obtain ⟨o, hσ, v, rfl, r1⟩ := paired_get en hΓ
  obtain ⟨a, dx, us, rfl, ea, rs⟩ := ov_ok mm r1 ho
  refine ⟨a, C, dx, us, hσ, ea, y, hy, ec, ?_⟩
  exact h1 F Z σ H en mm xr _ fun vs F2 H2 es M2 s2 m2 r2 h2 => h2 F2 Z σ H2 (en.mono s2) m2 (xr.mono s2) _ fun zs F3 H3 fs M3 s3 m3 r3 ⟨l1, l2, h3⟩ =>
      ⟨r2.length.trans l1, r3.length.trans l2, fr_sp (J := J) (E := E σ) h3 (perm_paired (paired_append (.cons (r1.mono (s2.trans s3)) (r2.mono s3)) (paired_append (hd y hy _ F3) r3)) y.ix) m3 (l.xr (xr.mono (s2.trans s3)) (en.mono (s2.trans s3))) fun v F' H' e M' s' m' r p => q v F' H' e M' ((s2.trans s3).trans s') m' r p⟩
end
section
variable {P : Program} {w : World} {K : PySem.W.Frag} {mg : Str → Option Value} {base : Heap} {x qual file : Str} {params : Arguments} {body : List Stmt} {scope : Scope} {dvs : List V} {kws : List (Str × V)} {D f : Addr} {fd : FuncData} {ar : Arg}
/-- a def that says super() and lets nothing out -/
theorem fnS_ok {N ps : List Str} {k : Nat} {c : ASp} (F : FunS K file x qual params body scope dvs kws D f fd) (S : SScope N ps scope) (hfile : (P.main.file : Str) = file) (htop : (P.main.scope.names.lookup ("super" : Str)).isSome = false) (hmg : mg "super" = none)
    (har : (params.posonlyargs ++ params.args).head? = some ar) (hself : scope.names.lookup ar.arg = some .local) (len : ∀ es M Q X, c es M Q X → es.length = ps.length)
    (h : ∀ (cda cc : Addr) (A : Around) (outer : List Env) (s : Shared) (H : Hp) (E : XK), Room k (A.deeper (envS qual scope s.heap.objs.size f cda cc)) → SupAt (cxS CX0 P w K mg base N qual scope f cda cc A outer s H E) D ar.arg →
      ∃ t, PSsA (cxS CX0 P w K mg base N qual scope f cda cc A outer s H E) body body t ∧ ∀ es M Q X, c es M Q X → Sx (defJ K E (FinX M.length X)) t { nx := fun _ M' => Fin M.length Q (.d .none) M', rt := Fin M.length Q } (startG N es) M) : FnOk P w K mg base CX0 (k + 1) f fd ps (spA K c) := by
  refine FunS.ok F S hfile htop hmg har hself (fun vs H Q E ⟨F, Z, M, es, Qa, X, r, _, hc, _⟩ => r.length.trans (len es M Qa X hc)) fun cda cc A outer s H vs Q E hr sup hsp => ?_
  obtain ⟨F, Z, M, es, Qa, X, r, m, hc, hq, hx⟩ := hsp
  obtain ⟨t, ht, hs⟩ := h cda cc A outer s H E hr sup
  exact ⟨t, ht, fin_run hs r m hc hq hx⟩
end
/-! ## static methods, by the class's name -/
def fStat (cn m : Str) : Fct := fun K => PySem.W.readsIn K (He.ga K cn) (.type "type") && (decide (PySem.W.specialIn K (.ref (He.ga K cn)) "__getattribute__" = some (some (.builtin "type.__getattribute__"))) && ((match PySem.W.findCls K (.ref (He.ga K cn)) (.type "type") m with
  | some (.get (.builtin b) (.ref p) .none (.ref C)) => decide (b = "staticmethod.__get__") && (decide (p = He.fAd K (cn, some m)) && decide (C = He.ga K cn))
  | _ => false) && (match PySem.W.recIn K (He.fAd K (cn, some m)) "staticmethod" with
  | some (.ref g :: _) => decide (g = recG K (He.fAd K (cn, some m)))
  | _ => false)))
structure StatOk (K : PySem.W.Frag) (cn m : Str) : Prop where
  rd : PySem.W.readsIn K (He.ga K cn) (.type "type") = true
  ga : PySem.W.specialIn K (.ref (He.ga K cn)) "__getattribute__" = some (some (.builtin "type.__getattribute__"))
  at_ : PySem.W.findCls K (.ref (He.ga K cn)) (.type "type") m = some (.get (.builtin "staticmethod.__get__") (.ref (He.fAd K (cn, some m))) .none (.ref (He.ga K cn)))
  rc : ∃ rest, PySem.W.recIn K (He.fAd K (cn, some m)) "staticmethod" = some (.ref (recG K (He.fAd K (cn, some m))) :: rest)
theorem stat_ok {K : PySem.W.Frag} {cn m : Str} (h : fStat cn m K = true) : StatOk K cn m := by
  obtain ⟨a1, h⟩ := He.ba h
  obtain ⟨a2, h⟩ := He.ba h
  obtain ⟨a3, a4⟩ := He.ba h
  refine ⟨a1, of_decide_eq_true a2, ?_, ?_⟩
  · split at a3
    · rename_i b p C e
      obtain ⟨b1, a3⟩ := He.ba a3
      obtain ⟨b2, b3⟩ := He.ba a3
      rw [e, of_decide_eq_true b1, of_decide_eq_true b2, of_decide_eq_true b3]
    · cases a3
  · split at a4
    · rename_i g rest e
      exact ⟨rest, by rw [e, of_decide_eq_true a4]⟩
    · cases a4
section
variable {X : Cx} {K : PySem.W.Frag} {cx : CXT} {cn m x qual : Str} {st : Stmt} {dvs : List V} {kwl : List (Str × V)} {k j n : Nat} {ps ks : List Str} {c : ASp} {cvs : List V} {ix : List Nat} {E : L2.St → XK} {o e : Expr} {es : List Expr} {kws : List Keyword} {t tk : TA} {pos apos : Pos} {pl : Sem Bool}
theorem getmethst_ok {pins : List (Addr × Obj)} {σ : L2.St} {H : Hp} {s : Shared} {A : Around} {E : Value → Shared → Prop} {Q : Value × List Value → Shared → Prop} (I : Inv X pins σ H s) (S : StatOk X.K cn m) (h : ∀ s', Inv X pins σ H s' → Q (.ref (recG X.K (He.fAd X.K (cn, some m))), []) s') :
    wpAny (model X.prog X.w) A (getMethod (.ref (He.ga X.K cn)) m pl) Q E s := by
  obtain ⟨rest, hp⟩ := S.rc
  refine PySem.W.method_cls I.kIn S.ga (PySem.W.cls_bind I.kIn S.rd S.at_ (wpAny_call (PySem.W.sm_get (s := { s with toks := s.toks + 1 }) I.kIn hp (PySem.W.handed_on rfl ?_))))
  exact h _ (I.tok _)
theorem ke_st (h : X.K = K) (S : StatOk K cn m) (he : PE X o (tC (.ref (He.ga K cn)))) (C : Cr X.prog X.w K X.mg X.base cx (cn, some m) x qual st dvs kwl k ps c) (hr : Room j X.A) (hj : k ≤ j) (hb : ∀ fd, FunB K x qual (defArgs st) (defBody st) (defScope st) dvs kwl fd → KBp K fd ps n ks cvs ix) (hx : ∀ σ, PassesAt cx X σ (E σ))
    (ha : PA X (e :: es) t) (hkw : PK X kws tk) (hall : (backToKw pos (keywordEach kws X.env)).all (·.1.isSome) = true := by rfl) (hks : (backToKw pos (keywordEach kws X.env)).filterMap (·.1) = ks := by rfl)
    (hst : starEach (e :: es) X.env = (false, eval e X.env) :: starEach es X.env := by rfl) (hpl : ((backTo pos (starEach (e :: es) X.env)).any (·.1) || (backToKw pos (keywordEach kws X.env)).any (·.1.isNone)) = false := by rfl)
    (ht : eval (.Call (.Attribute o m apos) (e :: es) kws pos) X.env = (do
      let ov ← eval o X.env
      standAt apos.atName
      let (f, first) ← holding [ov] (getMethod ov m pl)
      callWith pos f first (backTo pos (starEach (e :: es) X.env)) (backToKw pos (keywordEach kws X.env))) := by rfl) :
    PE X (.Call (.Attribute o m apos) (e :: es) kws pos) (tCaN n ks.length (spA K c) cvs ix E t tk) := by
  subst h
  obtain ⟨fd, F, B, kp⟩ := C.ex
  obtain ⟨cs, hb⟩ := hb fd B
  refine ⟨fun pins s σ H Q I h => ?_⟩
  refine PySem.W.methodCall_KW (pl := pl) (thn (he.run pins s σ H (fun v H' => v = .ref (He.ga X.K cn) ∧ H' = H) I ⟨rfl, rfl⟩) fun u s1 ⟨v, H1, I1, rx, ev, eh⟩ => ?_) ht
  subst ev
  subst eh
  obtain rfl : u = Value.ref (He.ga X.K cn) := rx
  refine getmethst_ok I1 S fun s2 I2 => ?_
  refine PySem.W.callWith_KW (first := []) (h₀ := X.base) I.ok.mod.kin kp hall (thn (ha.run pos pins s2 σ _ _ I2 h) fun us s3 ⟨vs, H2, I3, r, q2⟩ => ?_) hpl hst
  refine thn (hkw.run pos pins s3 σ H2 _ I3 q2) fun ws s4 ⟨zs, H3, I4, rz, l1, l2, q3⟩ => ⟨I4.kIn, ?_⟩
  rw [hks]
  exact run_fnS F (hr.mono hj) hb (hx σ) I4 r rz l1 l2 q3
end
/-! ## steps -/
theorem ms_in {ms kws : List (Str × V)} (ix : List Nat) (h : ms = ix.filterMap (kws[·]?)) : ∀ q ∈ ms, q ∈ kws := fun q hq => by
  rw [h, List.mem_filterMap] at hq
  obtain ⟨i, _, e⟩ := hq
  exact List.mem_of_getElem? e
theorem cv_nil : CVs [] [] := fun _ _ => .nil
theorem cv_int {i : Int} {vs : List V} {es : List Ent} (h : CVs vs es) : CVs (.int i :: vs) (.d (.int i) :: es) := fun K F => .cons (Rp.int i) (h K F)
theorem cv_bl {b : Bool} {vs : List V} {es : List Ent} (h : CVs vs es) : CVs (.bl b :: vs) (.d (.bool b) :: es) := fun K F => .cons (Rp.bl b) (h K F)
theorem cv_str {s : Str} {vs : List V} {es : List Ent} (h : CVs vs es) : CVs (.str s :: vs) (.d (.str s) :: es) := fun K F => .cons (Rp.str s) (h K F)
theorem cv_non {vs : List V} {es : List Ent} (h : CVs vs es) : CVs (.non :: vs) (.d .none :: es) := fun K F => .cons Rp.non (h K F)
theorem cvy_nil : ∀ y ∈ ([] : List MA), CVs y.cvs y.ces := fun _ h => by cases h
theorem cvy_cons {C : Addr} {c : ASp} {cvs : List V} {ces : List Ent} {ix : List Nat} {as : List MA} (h1 : CVs cvs ces) (h : ∀ y ∈ as, CVs y.cvs y.ces) : ∀ y ∈ (⟨C, c, cvs, ces, ix⟩ : MA) :: as, CVs y.cvs y.ces := fun z hz => by
  rcases List.mem_cons.mp hz with rfl | hz
  · exact h1
  · exact h z hz
section
variable {J : Jx} {Γ : Ga} {M M3 M' : Ms} {P : Ent → Ms → Prop} {t tk : TA} {n m : Nat} {X : Xa} {C : Addr} {c : ASp} {cvs : List V} {ces : List Ent} {ix : List Nat} {as : List MA} {x : Ent} {fs : List (Str × Ent)} {mn : Str}
theorem me_one (ho : OV M x C fs) (hl : fs.lookup mn = none) (h : WA J t Γ M fun es M2 => WA J tk Γ M2 fun zs M3 => es.length = n ∧ zs.length = m ∧ Fr c (perm ix ((x :: es) ++ (ces ++ zs))) M3 P X) :
    ∃ C' fs', OV M x C' fs' ∧ fs'.lookup mn = none ∧ ∃ y ∈ [(⟨C, c, cvs, ces, ix⟩ : MA)], y.C = C' ∧ WA J t Γ M fun es M2 => WA J tk Γ M2 fun zs M3 => es.length = n ∧ zs.length = m ∧ Fr y.c (perm y.ix ((x :: es) ++ (y.ces ++ zs))) M3 P X :=
  ⟨C, fs, ho, hl, _, List.mem_singleton.mpr rfl, rfl, h⟩
/-- the method of the first class of several -/
theorem me_fst (ho : OV M x C fs) (hl : fs.lookup mn = none) (h : WA J t Γ M fun es M2 => WA J tk Γ M2 fun zs M3 => es.length = n ∧ zs.length = m ∧ Fr c (perm ix ((x :: es) ++ (ces ++ zs))) M3 P X) :
    ∃ C' fs', OV M x C' fs' ∧ fs'.lookup mn = none ∧ ∃ y ∈ (⟨C, c, cvs, ces, ix⟩ : MA) :: as, y.C = C' ∧ WA J t Γ M fun es M2 => WA J tk Γ M2 fun zs M3 => es.length = n ∧ zs.length = m ∧ Fr y.c (perm y.ix ((x :: es) ++ (y.ces ++ zs))) M3 P X :=
  ⟨C, fs, ho, hl, _, List.mem_cons_self .., rfl, h⟩
theorem me_nxt {y0 : MA} (h : ∃ C' fs', OV M x C' fs' ∧ fs'.lookup mn = none ∧ ∃ y ∈ as, y.C = C' ∧ WA J t Γ M fun es M2 => WA J tk Γ M2 fun zs M3 => es.length = n ∧ zs.length = m ∧ Fr y.c (perm y.ix ((x :: es) ++ (y.ces ++ zs))) M3 P X) :
    ∃ C' fs', OV M x C' fs' ∧ fs'.lookup mn = none ∧ ∃ y ∈ y0 :: as, y.C = C' ∧ WA J t Γ M fun es M2 => WA J tk Γ M2 fun zs M3 => es.length = n ∧ zs.length = m ∧ Fr y.c (perm y.ix ((x :: es) ++ (y.ces ++ zs))) M3 P X := by
  obtain ⟨C', fs', a, b, y, hy, r⟩ := h
  exact ⟨C', fs', a, b, y, List.mem_cons_of_mem _ hy, r⟩
theorem su_one (hΓ : Γ[0]? = some (some x)) (ho : OV M x C fs) (h : WA J t Γ M fun es M2 => WA J tk Γ M2 fun zs M3 => es.length = n ∧ zs.length = m ∧ Fr c (perm ix ((x :: es) ++ (ces ++ zs))) M3 P X) :
    SupK J Γ M ((⟨C, c, cvs, ces, ix⟩ : MA) :: as) t tk n m P X :=
  ⟨x, C, fs, hΓ, ho, _, List.mem_cons_self .., rfl, h⟩
theorem ex_me {es zs cs args : List Ent} (h1 : es.length = n) (h2 : zs.length = m) (h3 : perm ix ((x :: es) ++ (cs ++ zs)) = args) (h : Fr c args M P X) :
    es.length = n ∧ zs.length = m ∧ Fr c (perm ix ((x :: es) ++ (cs ++ zs))) M P X := ⟨h1, h2, by rw [h3]; exact h⟩
/-- a made instance, kept as data -/
theorem mk_d {gs : List (Str × PyData)} (h1 : M3[M.length]? = some (some (.ins C (gs.map fun p => (p.1, Ent.d p.2))))) (h3 : flatMs (M3.take M.length) = true) (h4 : M3.take M.length = M') (p : P (.d (ob C gs)) M') : MkEnd M C P (.d .none) M3 :=
  ⟨rfl, .inl ⟨gs, h1, h3, by rw [h4]; exact p⟩⟩
end
section
variable {J : Jx} {Γ : Ga} {M : Ms} {D : Nd} {Cs : List Addr} {f : Str} {e : Ent} {n : Nat} {C : Addr} {fs : List (Str × Ent)}
theorem putE_new : ∀ {fs : List (Str × Ent)}, (fs.map (·.1)).all (fun g => decide (g ≠ f)) = true → putE f e fs = fs ++ [(f, e)]
  | [], _ => rfl
  | (g, u) :: r, h => by
    obtain ⟨h1, h2⟩ := He.ba (show (decide (g ≠ f) && (r.map (·.1)).all (fun g => decide (g ≠ f))) = true from h)
    show (if g = f then (g, e) :: r else (g, u) :: putE f e r) = _
    rw [if_neg (of_decide_eq_true h1), putE_new h2]
    rfl
/-- a new field -/
theorem fs_new {R : Ms → Prop} {M' : Ms} (hm : M[n]? = some (some (.ins C fs))) (hc : C ∈ Cs) (hl : Nat.ble fs.length 900 = true) (hn : (fs.map (·.1)).all (fun g => decide (g ≠ f)) = true) (hM : M.set n (some (.ins C (fs ++ [(f, e)]))) = M') (r : R M') :
    ∃ n' C' fs', Ent.r n = .r n' ∧ M[n']? = some (some (.ins C' fs')) ∧ C' ∈ Cs ∧ Nat.ble fs'.length 900 = true ∧ R (M.set n' (some (.ins C' (putE f e fs')))) :=
  ⟨n, C, fs, rfl, hm, hc, hl, by rw [putE_new hn, hM]; exact r⟩
end
theorem ps_never {X : Cx} {st : Stmt} : PS X st (fun _ _ _ => False) := ⟨fun _ _ _ _ _ _ h => h.elim⟩
/-! ## tuples that the module's names stand for -/
def dvD : He.Dv → Option PyData
  | .non => some .none
  | .bl b => some (.bool b)
  | .int i => some (.int i)
  | .str x => some (.str x)
  | _ => none
def dvDs : List He.Dv → Option (List PyData)
  | [] => some []
  | v :: vs => match dvD v, dvDs vs with
    | some d, some ds => some (d :: ds)
    | _, _ => none
theorem dvD_ok {K : PySem.W.Frag} {F : Wd} {v : He.Dv} {d : PyData} (h : dvD v = some d) : Rp K F (v.v K) d := by
  cases v with
  | non => cases h; exact Rp.non
  | bl b => cases h; exact Rp.bl b
  | int i => cases h; exact Rp.int i
  | str x => cases h; exact Rp.str x
  | _ => cases h
theorem dvDs_ok {K : PySem.W.Frag} {F : Wd} : ∀ {vs : List He.Dv} {ds : List PyData}, dvDs vs = some ds → RpAll K F (vs.map (He.Dv.v K)) ds
  | [], ds, h => by cases h; exact .nil
  | v :: vs, ds, h => by
    unfold dvDs at h
    cases h1 : dvD v with
    | none => rw [h1] at h; cases h
    | some d =>
      cases h2 : dvDs vs with
      | none => rw [h1, h2] at h; cases h
      | some es =>
        rw [h1, h2] at h
        cases h
        exact .cons (dvD_ok h1) (dvDs_ok h2)
def fTup (x : Str) (vs : List He.Dv) : Fct := fun K => He.tupB K x vs
def tTupC (K : PySem.W.Frag) (x : Str) (vs : List He.Dv) : TE := fun σ H Q => (∀ H', SqT K H' (He.ga K x) (vs.map (He.Dv.v K))) → Q (.ref (He.ga K x)) H
theorem ke_tupC {X : Cx} {K : PySem.W.Frag} {x : Str} {vs : List He.Dv} {p : Pos} (h : X.K = K) (hg : Gl X x) (hm : X.mg x = some (.ref (He.ga K x))) (hf : fTup x vs K = true) (hd : (x == ("__debug__" : Str)) = false := by decide) : PE X (.Name x p) (tTupC K x vs) :=
  ⟨fun pins s σ H Q I q => ld_glob I hg hm ⟨.ref (He.ga K x), H, I, rfl, q fun H' => He.tupB_ok hf H'⟩ hd⟩
section
variable {J : Jx} {Γ : Ga} {M : Ms} {P : Ent → Ms → Prop} {y : Ent}
theorem w_tupC {x : Str} {vs : List He.Dv} {ds : List PyData} (hd : dvDs vs = some ds) (p : P (.d (.tuple ds)) M) : Wx J (tTupC J.K x vs) Γ M P := fun F Z σ H en m xr Q q => fun hs =>
  q _ F H (.d (.tuple ds)) M (Same.refl F) m (Rp.tup (hs F.F) (dvDs_ok hd)) p
end
theorem o_inTm {J : Jx} {M : Ms} {P : Ent → Ms → Prop} {s : Str} {ss : List Str} {ds : List PyData} (hs : strsOf ds = some ss) (p : P (.d (.bool (decide (s ∈ ss)))) M) : O2 J (rInU J.K) (.d (.str s)) (.d (.tuple ds)) M P := by
  rw [strsOf_ok hs]
  exact o_inTs p
theorem o_notInTm {J : Jx} {M : Ms} {P : Ent → Ms → Prop} {s : Str} {ss : List Str} {ds : List PyData} (hs : strsOf ds = some ss) (p : P (.d (.bool (!decide (s ∈ ss)))) M) : O2 J (rNotInU J.K) (.d (.str s)) (.d (.tuple ds)) M P := by
  rw [strsOf_ok hs]
  exact o_notInTs p
theorem dk_key2 {M : Ms} {n : Nat} {kds : List (Key × PyData)} {s : Str} {R : Key → Prop} (hm : M[n]? = some (some (.dic kds))) (r : R (.inr s)) : ∃ k, Ent.d (.str s) = .d (kE k) ∧ M[n]? = some (some (.dic kds)) ∧ R k := ⟨.inr s, rfl, hm, r⟩
/-- a field of an instance that may change -/
theorem fl_r {M : Ms} {R : Ent → Prop} {n : Nat} {C : Addr} {fs : List (Str × Ent)} {Cs : List Addr} {f : Str} {e : Ent} (hm : M[n]? = some (some (.ins C fs))) (hc : C ∈ Cs) (hl : fs.lookup f = some e) (p : R e) : ∃ C fs e, OV M (.r n) C fs ∧ C ∈ Cs ∧ fs.lookup f = some e ∧ R e := ⟨C, fs, e, .r hm, hc, hl, p⟩
theorem lk_here {α : Type} {f : Str} {e : α} {r : List (Str × α)} : ((f, e) :: r).lookup f = some e := by
  rw [List.lookup_cons]
  simp
theorem lk_next {α : Type} {f g : Str} {e u : α} {r : List (Str × α)} (h : g ≠ f) (t : r.lookup f = some e) : ((g, u) :: r).lookup f = some e := by
  rw [List.lookup_cons]
  have : (f == g) = false := by simpa using fun z => h z.symm
  rw [this]
  exact t
end Z
set_option Elab.async false
set_option linter.all false
set_option maxRecDepth 100000
set_option maxHeartbeats 4000000
namespace Z
open PySem PySem.Spec L2 PyProof.Rows
/-! ## is, of None and of bools -/
abbrev rIsU : R2 := rOr rIsN (fun x y H Q => ∃ a b, x = .bl a ∧ y = .bl b ∧ Q (.bl (decide (a = b))) H)
theorem op_isU {X : Cx} : OpR X (compareOp .Is) rIsU := op_or2 op_isN op_is_bl
section
variable {J : Jx} {M : Ms} {P : Ent → Ms → Prop} {x : Ent}
theorem o_isNu (p : P (.d (.bool (isN x))) M) : O2 J rIsU x (.d .none) M P := o_l (o_isN p)
theorem o_isB {a b : Bool} (p : P (.d (.bool (decide (a = b)))) M) : O2 J rIsU (.d (.bool a)) (.d (.bool b)) M P := o_r fun F Z H v u m xr r1 r2 Q q => by
  cases r1
  cases r2
  exact ⟨a, b, rfl, rfl, q _ F H (.d (.bool _)) M (Same.refl F) m (Rp.bl _) p⟩
end
theorem nd_ct {n : Ga → Ms → Prop} {r : Ent → Ms → Prop} {b c : Ga → Ms → Prop} {Γ : Ga} {M : Ms} (h : c Γ M) : (Nd.mk n r b c).ct Γ M := h
theorem nd_bk {n : Ga → Ms → Prop} {r : Ent → Ms → Prop} {b c : Ga → Ms → Prop} {Γ : Ga} {M : Ms} (h : b Γ M) : (Nd.mk n r b c).bk Γ M := h
theorem dk_getR {M : Ms} {n : Nat} {kds : List (Key × PyData)} {s : Str} {R : PyData → Prop} {d : PyData} (hm : M[n]? = some (some (.dic kds))) (hg : kGet kds (.inr s) = some d) (p : R d) : ∃ n' kds' k d', Ent.r n = .r n' ∧ Ent.d (.str s) = .d (kE k) ∧ M[n']? = some (some (.dic kds')) ∧ kGet kds' k = some d' ∧ R d' := ⟨n, kds, .inr s, d, rfl, rfl, hm, hg, p⟩
end Z
set_option Elab.async false
set_option linter.all false
set_option maxRecDepth 100000
set_option maxHeartbeats 4000000
namespace Z
open PySem PySem.Spec L2 PyProof.Rows
/-! ## strip, as lists -/
def trimL (p : Nat → Bool) (l : List Nat) : List Nat := ((l.dropWhile p).reverse.dropWhile p).reverse
theorem drop_tw {α : Type} (p : α → Bool) : ∀ l : List α, l.drop (l.takeWhile p).length = l.dropWhile p
  | [] => rfl
  | c :: r => by
    rw [List.takeWhile_cons, List.dropWhile_cons]
    cases h : p c with
    | true => simpa using drop_tw p r
    | false => rfl
theorem tw_le {α : Type} (p : α → Bool) : ∀ l : List α, (l.takeWhile p).length ≤ l.length
  | [] => Nat.le_refl _
  | c :: r => by
    rw [List.takeWhile_cons]
    split
    · exact Nat.succ_le_succ (tw_le p r)
    · exact Nat.zero_le _
theorem strip_cs (s t : Str) : cs (Txt.stripChars s t) = trimL t.cps.contains (cs s) := by
  generalize hp : t.cps.contains = p
  have key : (((cs s).drop (stripLo p true s)).take (stripHi p true s (stripLo p true s) - stripLo p true s)) = trimL p (cs s) := by
    unfold stripHi stripLo
    rw [if_pos rfl, if_pos rfl]
    have e1 : (cs s).drop ((cs s).takeWhile p).length = (cs s).dropWhile p := drop_tw p _
    show ((cs s).drop ((cs s).takeWhile p).length).take (s.length - (((cs s).drop ((cs s).takeWhile p).length).reverse.takeWhile p).length - ((cs s).takeWhile p).length) = _
    unfold trimL
    have l0 := congrArg List.length e1
    rw [List.length_drop] at l0
    rw [e1]
    have l1 := tw_le p ((cs s).dropWhile p).reverse
    have l2 := tw_le p (cs s)
    rw [← drop_tw p ((cs s).dropWhile p).reverse, List.drop_reverse, List.reverse_reverse]
    congr 1
    rw [← l0, len_cs]
    omega
  unfold Txt.stripChars Txt.stripBy
  rw [hp]
  split
  · rename_i h
    unfold stripSame at h
    rw [Bool.and_eq_true, beq_iff_eq, beq_iff_eq] at h
    obtain ⟨h1, h2⟩ := h
    rw [h1] at h2
    rw [h1, h2, List.drop_zero, Nat.sub_zero, len_cs, List.take_length] at key
    exact key
  · show TL.tl (stripped p true true s) = _
    unfold stripped
    rw [TL.tl_strSub]
    exact key
theorem dw_head {p : Nat → Bool} : ∀ {l : List Nat}, (∀ c, l.head? = some c → p c = false) → l.dropWhile p = l
  | [], _ => rfl
  | c :: r, h => by rw [List.dropWhile_cons, if_neg (by rw [h c rfl]; decide)]
theorem trim_id {p : Nat → Bool} {l : List Nat} (h1 : ∀ c, l.head? = some c → p c = false) (h2 : ∀ c, l.getLast? = some c → p c = false) : trimL p l = l := by
  unfold trimL
  rw [dw_head h1, dw_head (fun c hc => h2 c (by rw [List.head?_reverse] at hc; exact hc)), List.reverse_reverse]
theorem trim_cons {p : Nat → Bool} {c : Nat} {l : List Nat} (h : p c = true) : trimL p (c :: l) = trimL p l := by
  unfold trimL
  rw [List.dropWhile_cons, if_pos h]
theorem spc_contains : ((" " : Str).cps.contains) = fun c => decide (c = 32) := by
  funext c
  show (#[32] : Array Nat).contains c = _
  simp
/-! ## a text joined by a comma and a space, cut at the commas -/
theorem spl_joinC (ps : List (List Nat)) : ∀ (p acc : List Nat), (∀ q ∈ p :: ps, 44 ∉ q) → TL.spl [44] 0 acc (TL.joinL [44, 32] (p :: ps)) = (acc ++ p) :: ps.map (32 :: ·) := by
  induction ps with
  | nil => intro p acc h; exact TL.spl_last1 (h p (List.mem_cons_self ..))
  | cons q r ih =>
    intro p acc h
    show TL.spl [44] 0 acc (p ++ ([44, 32] ++ TL.joinL [44, 32] (q :: r))) = _
    have e : p ++ ([44, 32] ++ TL.joinL [44, 32] (q :: r)) = p ++ ([44] ++ (32 :: TL.joinL [44, 32] (q :: r))) := rfl
    rw [e, TL.spl_part1 (h p (List.mem_cons_self ..)), spl1_cons, if_neg (by decide)]
    show (acc ++ p) :: TL.spl [44] 0 [32] (TL.joinL [44, 32] (q :: r)) = _
    rw [ih q [32] (fun z hz => h z (List.mem_cons_of_mem _ hz))]
    rfl
/-! ## numbers as texts -/
theorem numL_head {n : Nat} : (TL.numL n).head? = some 48 → n = 0 := by
  induction n using Nat.strongRecOn with
  | _ n ih =>
    by_cases h : n < 10
    · rw [TL.numL_lt h]
      intro q
      have q2 : 48 + n = 48 := Option.some.inj q
      omega
    · rw [TL.numL_step (by omega)]
      intro q
      have ne := TL.numL_ne (n / 10)
      have : (TL.numL (n / 10)).head? = some 48 := by
        cases e : TL.numL (n / 10) with
        | nil => exact absurd e ne
        | cons a l => rw [e] at q; exact q
      have := ih (n / 10) (by omega) this
      omega
theorem cs_num (n : Nat) : cs (Str.ofString (toString ((n : Nat) : Int))) = TL.numL n := TL.tl_num n
/-! ## slices of lists, typed -/
theorem cutD_to {ds : List PyData} {k : Int} (h : 0 ≤ k) : cutD ds none (some k) = ds.take k.toNat := by
  obtain ⟨n, rfl⟩ := Int.eq_ofNat_of_zero_le h
  unfold cutD
  rw [HT.sIx_nat]
  show ((ds.drop 0).take (min n ds.length - 0)) = ds.take n
  rw [List.drop_zero, Nat.sub_zero]
  by_cases h : n ≤ ds.length
  · rw [Nat.min_eq_left h]
  · rw [Nat.min_eq_right (by omega), List.take_of_length_le (Nat.le_refl _), List.take_of_length_le (by omega)]
theorem cutD_from {ds : List PyData} {k : Int} (h : 0 ≤ k) : cutD ds (some k) none = ds.drop k.toNat := by
  obtain ⟨n, rfl⟩ := Int.eq_ofNat_of_zero_le h
  unfold cutD
  rw [HT.sIx_nat]
  show ((ds.drop (min n ds.length)).take (ds.length - min n ds.length)) = ds.drop n
  by_cases h : n ≤ ds.length
  · rw [Nat.min_eq_left h, List.take_of_length_le (by simp)]
  · rw [Nat.min_eq_right (by omega), List.drop_of_length_le (Nat.le_refl _), List.drop_of_length_le (by omega)]
    simp
section
variable {J : Jx} {M : Ms} {P : Ent → Ms → Prop} {y : Ent} {ds : List PyData} {k : Int}
theorem l_to (hd : LD M y ds) (h : 0 ≤ k) (p : P (.d (.list (ds.take k.toNat))) M) : OS J (rSlU J.K) y none (some k) M P := l_list hd (by rw [cutD_to h]; exact p)
theorem l_from (hd : LD M y ds) (h : 0 ≤ k) (p : P (.d (.list (ds.drop k.toNat))) M) : OS J (rSlU J.K) y (some k) none M P := l_list hd (by rw [cutD_from h]; exact p)
/-- data lists as images of typed lists -/
def IsM {α : Type} (f : α → PyData) (ds : List PyData) (xs : List α) : Prop := ds = xs.map f
variable {α : Type} {f : α → PyData} {es : List PyData} {xs ys : List α} {x : α} {n : Nat}
theorem im_map : IsM f (xs.map f) xs := rfl
theorem im_nil : IsM f [] [] := rfl
theorem im_cons (h : IsM f ds xs) : IsM f (f x :: ds) (x :: xs) := by rw [h]; rfl
theorem im_app (h : IsM f ds xs) (h2 : IsM f es ys) : IsM f (ds ++ es) (xs ++ ys) := by rw [h, h2]; exact List.map_append.symm
theorem im_take (h : IsM f ds xs) : IsM f (ds.take n) (xs.take n) := by rw [h]; exact List.map_take.symm
theorem im_drop (h : IsM f ds xs) : IsM f (ds.drop n) (xs.drop n) := by rw [h]; exact List.map_drop.symm
theorem im_rev (h : IsM f ds xs) : IsM f ds.reverse xs.reverse := by rw [h]; exact List.map_reverse.symm
end
/-! ## places that are written, in lists with a part that is not -/
theorem ixN_lit {n : Nat} {i : Int} (h0 : 0 ≤ i) (h1 : i < (n : Int)) : ixN n i = some i.toNat := by
  unfold ixN
  rw [if_pos h0, if_pos h1]
/-! ## // and % by what is greater than 0 -/
section
variable {J : Jx} {M : Ms} {P : Ent → Ms → Prop} {i j : Int}
theorem o_fdivP (h0 : 0 < j) (hb : j ≤ 1000000000) (p : P (.d (.int (i / j))) M) : O2 J (rI CDivN fun i j => .int (i.fdiv j)) (.d (.int i)) (.d (.int j)) M P :=
  o_fdiv ⟨by omega, by omega⟩ (by rw [Int.fdiv_eq_ediv_of_nonneg _ (by omega)]; exact p)
theorem o_modP (h0 : 0 < j) (p : P (.d (.int (i % j))) M) : O2 J (rI (fun _ j => j ≠ 0) fun i j => .int (i.fmod j)) (.d (.int i)) (.d (.int j)) M P :=
  o_mod (by omega) (by rw [Int.fmod_eq_emod_of_nonneg _ (by omega)]; exact p)
end
theorem em0 {i j : Int} (h : 0 < j) : 0 ≤ i % j := Int.emod_nonneg i (by omega)
theorem em1 {i j : Int} (h : 0 < j) : i % j < j := Int.emod_lt_of_pos i h
/-! ## steps that leave frames and memories in order -/
theorem ex_subN {n : Nat} {k : Int} {ds : List PyData} {j : Nat} {d : PyData} {M M' : Ms} {R : Ms → Prop} (hm : M[n]? = some (some (.lst ds))) (hj : ixN ds.length k = some j) (hM : M.set n (some (.lst (ds.set j d))) = M') (h : R M') :
    ∃ n' k' j' d', Ent.r n = .r n' ∧ Ent.d (.int k) = .d (.int k') ∧ Ent.d d = .d d' ∧ ∃ ds', M[n']? = some (some (.lst ds')) ∧ ixN ds'.length k' = some j' ∧ R (M.set n' (some (.lst (ds'.set j' d')))) := ex_sub hm hj (by rw [hM]; exact h)
section
variable {n : Ga → Ms → Prop} {r : Ent → Ms → Prop} {b c : Ga → Ms → Prop} {e : Ent} {Γ Γ' : Ga} {M M' : Ms}
theorem nd_nxN (h1 : Γ = Γ') (h2 : M = M') (h : n Γ' M') : (Nd.mk n r b c).nx Γ M := by subst h1; subst h2; exact h
theorem nd_ctN (h1 : Γ = Γ') (h2 : M = M') (h : c Γ' M') : (Nd.mk n r b c).ct Γ M := by subst h1; subst h2; exact h
theorem nd_bkN (h1 : Γ = Γ') (h2 : M = M') (h : b Γ' M') : (Nd.mk n r b c).bk Γ M := by subst h1; subst h2; exact h
theorem nd_rtN (h2 : M = M') (h : r e M') : (Nd.mk n r b c).rt e M := by subst h2; exact h
end
theorem snocS (xs : List Str) (x : Str) : xs.map PyData.str ++ [.str x] = (xs ++ [x]).map PyData.str := by rw [List.map_append]; rfl
theorem snocI (xs : List Int) (x : Int) : xs.map PyData.int ++ [.int x] = (xs ++ [x]).map PyData.int := by rw [List.map_append]; rfl
theorem snocM {α : Type} (f : α → PyData) (xs : List α) (x : α) : xs.map f ++ [f x] = (xs ++ [x]).map f := by rw [List.map_append]; rfl
theorem fin_dbN {n : Nat} {Q : Ent → Ms → Prop} {x : PyData} {M M' : Ms} (hl : Nat.ble n M.length = true) (hf : flatMs (M.take n) = true) (hM : M.take n = M') (h : Q (.d x) M') : Fin n Q (.d x) M := fin_db hl hf (by rw [hM]; exact h)
theorem fin_rbN {n j : Nat} {Q : Ent → Ms → Prop} {M M' : Ms} {m : Mo} (hj : M[j]? = some (some m)) (hm : flatM m = true) (hn : Nat.ble n j = true) (hf : flatMs (M.take n) = true) (hM : M.take n ++ [some m] = M') (h : Q (.r n) M') : Fin n Q (.r j) M := fin_rb hj hm hn hf (by rw [hM]; exact h)
end Z
set_option Elab.async false
set_option linter.all false
set_option maxRecDepth 100000
set_option maxHeartbeats 4000000
namespace Z
open PySem PySem.Spec L2 PyProof.Rows PySem.Calls
/-! ## max and min of any number of ints -/
section
variable {P : Program} {w : World} {A : Around} {E : Value → Shared → Prop} {s : Shared} {a b : Value} {r : List Value} {Q : Value → Shared → Prop}
/-- what is left to show: the new tuple's walk -/
def BW (P : Program) (w : World) (A : Around) (op : CmpOp) (its : List Value) (Q : Value → Shared → Prop) (E : Value → Shared → Prop) (s : Shared) : Prop :=
  wpAny (model P w) A.in1 (pyIter (.ref s.heap.objs.size)) (fun j t => ∃ (I : Addr) (fp wr : List Addr) (n : Nat) (R : Nat → Value → Prop) (St : Nat → Heap → Prop) (bt : Nat → Nat → Bool), j = .ref I ∧ Walks P w A.in1 I fp wr n R St ∧
    (St 0 t.heap ∧ ∀ x ∈ fp, x < t.heap.objs.size) ∧ (0 < n ∧ CmpOf P w A.in1 op R bt) ∧ ∀ v g k, R (argBest bt (n - 1)) v → (∀ x o, x ∉ wr → t.heap.get? x = some o → g.get? x = some o) → Q v { t with heap := g, toks := k }) E
    { s with heap := s.heap.push { cls := .type "tuple", data := .seq its.toArray } }
theorem max_args (ok : argsOk "max" ⟨a :: b :: r, []⟩) (hz : (a :: b :: r).length ≤ 1000) (h : BW P w A .Gt (a :: b :: r) Q E s) : wpAny (model P w) A (call (.builtin "max") (a :: b :: r)) Q E s := by
  refine call_function_tree F.kind_max F.plain_max F.entry_max ok ?_
  have e0 : Builtin.Builtins.bindParams "max" ["key", "default"] 0 ⟨[], []⟩ = pure [none, none] := rfl
  refine wpAny_bind (wpAny_of_eq e0 ?_)
  have sz : sizeOk (.seq (a :: b :: r).toArray) := by
    show (a :: b :: r).toArray.size ≤ sizeLine
    have e : sizeLine = 16777216 := rfl
    rw [List.size_toArray, e]
    omega
  show wpAny _ A.in1 (newTuple (a :: b :: r) >>= _) _ _ s
  refine wpAny_bind (wpAny_newObj_type ?_ sz)
  refine wpAny_bind (wpAny_mono h (fun j t q => ?_) fun _ _ z => z)
  obtain ⟨I, fp, wr, n, R, St, bt, rfl, W, ⟨q1, q2⟩, ⟨q3, q4⟩, q5⟩ := q
  refine wpAny_bind (wpAny_newObj_type ?_)
  have nm : t.heap.objs.size ∉ fp := fun z => Nat.lt_irrefl _ (q2 _ z)
  have en : (toString "max" ++ toString ".loop" : String) = "max.loop" := by decide
  rw [en]
  refine wpAny_pure ⟨plainId_quiet F.plain_max_loop _, ?_⟩
  refine codeAny_max_loop_first W bt q4 _ nm q3 (W.frame _ _ _ q1 fun x _ o z => Heap.get?_push_of_some _ z) (Heap.get?_push_size _ rfl) fun v g k hp hk => q5 v g k hp fun x o hx z => ?_
  exact hk x o hx (Nat.ne_of_lt (Heap.lt_size z)) (Heap.get?_push_of_some _ z)
theorem min_args (ok : argsOk "min" ⟨a :: b :: r, []⟩) (hz : (a :: b :: r).length ≤ 1000) (h : BW P w A .Lt (a :: b :: r) Q E s) : wpAny (model P w) A (call (.builtin "min") (a :: b :: r)) Q E s := by
  refine call_function_tree F.kind_min F.plain_min F.entry_min ok ?_
  have e0 : Builtin.Builtins.bindParams "min" ["key", "default"] 0 ⟨[], []⟩ = pure [none, none] := rfl
  refine wpAny_bind (wpAny_of_eq e0 ?_)
  have sz : sizeOk (.seq (a :: b :: r).toArray) := by
    show (a :: b :: r).toArray.size ≤ sizeLine
    have e : sizeLine = 16777216 := rfl
    rw [List.size_toArray, e]
    omega
  show wpAny _ A.in1 (newTuple (a :: b :: r) >>= _) _ _ s
  refine wpAny_bind (wpAny_newObj_type ?_ sz)
  refine wpAny_bind (wpAny_mono h (fun j t q => ?_) fun _ _ z => z)
  obtain ⟨I, fp, wr, n, R, St, bt, rfl, W, ⟨q1, q2⟩, ⟨q3, q4⟩, q5⟩ := q
  refine wpAny_bind (wpAny_newObj_type ?_)
  have nm : t.heap.objs.size ∉ fp := fun z => Nat.lt_irrefl _ (q2 _ z)
  have en : (toString "min" ++ toString ".loop" : String) = "min.loop" := by decide
  rw [en]
  refine wpAny_pure ⟨plainId_quiet F.plain_min_loop _, ?_⟩
  refine codeAny_min_loop_first W bt q4 _ nm q3 (W.frame _ _ _ q1 fun x _ o z => Heap.get?_push_of_some _ z) (Heap.get?_push_size _ rfl) fun v g k hp hk => q5 v g k hp fun x o hx z => ?_
  exact hk x o hx (Nat.ne_of_lt (Heap.lt_size z)) (Heap.get?_push_of_some _ z)
theorem vals_ints : ∀ {ns : List Int} {us : List Value}, Vals (ns.map V.int) us → ∃ ps : List (Int × Tok), ps.map (·.1) = ns ∧ us = ps.map fun p => .int p.1 p.2
  | [], _, .nil => ⟨[], rfl, rfl⟩
  | n :: ns, _, .cons rv t => by
    obtain ⟨k, rfl⟩ := rv
    obtain ⟨ps, e1, e2⟩ := vals_ints t
    exact ⟨(n, k) :: ps, by rw [List.map_cons, e1], by rw [e2]; rfl⟩
end
/-- the greatest, the least -/
def maxI : List Int → Int
  | [] => 0
  | a :: r => r.foldl (fun m x => if x > m then x else m) a
def minI : List Int → Int
  | [] => 0
  | a :: r => r.foldl (fun m x => if x < m then x else m) a
theorem foldmax : ∀ (r : List Int) (m : Int), m ≤ r.foldl (fun m x => if x > m then x else m) m ∧ (∀ x ∈ r, x ≤ r.foldl (fun m x => if x > m then x else m) m) ∧ (r.foldl (fun m x => if x > m then x else m) m = m ∨ r.foldl (fun m x => if x > m then x else m) m ∈ r)
  | [], m => ⟨Int.le_refl _, fun x h => (nomatch h), .inl rfl⟩
  | y :: r, m => by
    obtain ⟨h1, h2, h3⟩ := foldmax r (if y > m then y else m)
    rw [List.foldl_cons]
    refine ⟨Int.le_trans (by split <;> omega) h1, fun x hx => ?_, ?_⟩
    · rcases List.mem_cons.mp hx with rfl | hx
      · exact Int.le_trans (by split <;> omega) h1
      · exact h2 x hx
    · rcases h3 with h3 | h3
      · rw [h3]
        split
        · exact .inr (List.mem_cons_self ..)
        · exact .inl rfl
      · exact .inr (List.mem_cons_of_mem _ h3)
theorem foldmin : ∀ (r : List Int) (m : Int), r.foldl (fun m x => if x < m then x else m) m ≤ m ∧ (∀ x ∈ r, r.foldl (fun m x => if x < m then x else m) m ≤ x) ∧ (r.foldl (fun m x => if x < m then x else m) m = m ∨ r.foldl (fun m x => if x < m then x else m) m ∈ r)
  | [], m => ⟨Int.le_refl _, fun x h => (nomatch h), .inl rfl⟩
  | y :: r, m => by
    obtain ⟨h1, h2, h3⟩ := foldmin r (if y < m then y else m)
    rw [List.foldl_cons]
    refine ⟨Int.le_trans h1 (by split <;> omega), fun x hx => ?_, ?_⟩
    · rcases List.mem_cons.mp hx with rfl | hx
      · exact Int.le_trans h1 (by split <;> omega)
      · exact h2 x hx
    · rcases h3 with h3 | h3
      · rw [h3]
        split
        · exact .inr (List.mem_cons_self ..)
        · exact .inl rfl
      · exact .inr (List.mem_cons_of_mem _ h3)
theorem maxI_spec {ns : List Int} (h : ns ≠ []) : maxI ns ∈ ns ∧ ∀ x ∈ ns, x ≤ maxI ns := by
  cases ns with
  | nil => exact absurd rfl h
  | cons a r =>
    obtain ⟨h1, h2, h3⟩ := foldmax r a
    refine ⟨?_, fun x hx => ?_⟩
    · rcases h3 with h3 | h3
      · show r.foldl _ a ∈ _
        rw [h3]
        exact List.mem_cons_self ..
      · exact List.mem_cons_of_mem _ h3
    · rcases List.mem_cons.mp hx with rfl | hx
      · exact h1
      · exact h2 x hx
theorem minI_spec {ns : List Int} (h : ns ≠ []) : minI ns ∈ ns ∧ ∀ x ∈ ns, minI ns ≤ x := by
  cases ns with
  | nil => exact absurd rfl h
  | cons a r =>
    obtain ⟨h1, h2, h3⟩ := foldmin r a
    refine ⟨?_, fun x hx => ?_⟩
    · rcases h3 with h3 | h3
      · show r.foldl _ a ∈ _
        rw [h3]
        exact List.mem_cons_self ..
      · exact List.mem_cons_of_mem _ h3
    · rcases List.mem_cons.mp hx with rfl | hx
      · exact h1
      · exact h2 x hx
theorem max_uniq {ns : List Int} {m : Int} (h : ns ≠ []) (h1 : m ∈ ns) (h2 : ∀ x ∈ ns, x ≤ m) : m = maxI ns := by
  obtain ⟨a, b⟩ := maxI_spec h
  have := b m h1
  have := h2 _ a
  omega
theorem min_uniq {ns : List Int} {m : Int} (h : ns ≠ []) (h1 : m ∈ ns) (h2 : ∀ x ∈ ns, m ≤ x) : m = minI ns := by
  obtain ⟨a, b⟩ := minI_spec h
  have := b m h1
  have := h2 _ a
  omega
theorem at_num {ps : List (Int × Tok)} {i : Nat} {v : Value} (h : (intItems ps.toArray)[i]? = some v) : ∃ t, v = .int (numAt ps.toArray i) t ∧ numAt ps.toArray i ∈ ps.map (·.1) := by
  obtain ⟨t, e⟩ := intItems_at h
  refine ⟨t, e, ?_⟩
  have hi : i < ps.length := by
    have := (Array.getElem?_eq_some_iff.mp h).1
    simpa [intItems] using this
  rw [PySem.numAt_eq]
  show (ps.map (·.1)).getD i 0 ∈ _
  exact PySem.getD_mem (by rw [List.length_map]; exact hi)
theorem max_its {P : Program} {w : World} {A : Around} {E : Value → Shared → Prop} {s : Shared} {Q : Value → Shared → Prop} (hh : A.handled = none) {ps : List (Int × Tok)} (hn : ps ≠ []) (hz : ps.length ≤ 1000)
    (h : ∀ g k t, (∀ x o, s.heap.get? x = some o → g.get? x = some o) → Q (.int (maxI (ps.map (·.1))) t) { s with heap := g, toks := k }) : BW P w A .Gt (ps.map fun p => .int p.1 p.2) Q E s := by
  unfold BW
  have ea : (ps.map fun p => Value.int p.1 p.2).toArray = intItems ps.toArray := by simp [intItems]
  rw [ea]
  generalize hg : s.heap.push { cls := .type "tuple", data := .seq (intItems ps.toArray) } = h1
  have hs : h1.objs.size = s.heap.objs.size + 1 := by rw [← hg]; exact Heap.size_push ..
  have hT : h1.IsTuple s.heap.objs.size (intItems ps.toArray) := by rw [← hg]; exact ⟨_, Heap.get?_push_size _ rfl, rfl, 0, rfl⟩
  have hold0 : ∀ x o, s.heap.get? x = some o → h1.get? x = some o := fun x o z => by rw [← hg]; exact Heap.get?_push_of_some _ z
  have hn2 : 0 < (intItems ps.toArray).size := by
    have := List.length_pos_iff.mpr hn
    simpa [intItems] using this
  refine wpAny_pyIter_tuple hT ?_
  refine ⟨_, _, _, _, _, _, _, rfl, Walks.tuple (A := A.in1) hh _ s.heap.objs.size (Nat.ne_of_lt (by show _ < h1.objs.size; omega)) _, ⟨⟨⟨_, Heap.get?_push_size _ rfl, rfl, rfl⟩, hT.push _⟩, fun x hx => ?_⟩,
    ⟨hn2, CmpOf.ints_gt (numAt ps.toArray) fun _ _ => intItems_at⟩, fun v g k hp hk => ?_⟩
  · show x < (Heap.push h1 _).objs.size
    rw [Heap.size_push]
    rcases List.mem_cons.mp hx with rfl | hx
    · exact Nat.lt_succ_self _
    · rw [List.mem_singleton.mp hx, hs]
      exact Nat.lt_succ_of_lt (Nat.lt_succ_self _)
  · obtain ⟨t, rfl, hm⟩ := at_num hp
    have hb : ∀ x ∈ ps.map (·.1), x ≤ numAt ps.toArray (argBest (fun i j => decide (numAt ps.toArray i > numAt ps.toArray j)) ((intItems ps.toArray).size - 1)) := by
      intro x hx
      obtain ⟨j, hj, e⟩ := PySem.mem_getD hx
      rw [List.length_map] at hj
      have := (argBest_gt (numAt ps.toArray) ((intItems ps.toArray).size - 1)).2 j (by simp [intItems]; omega)
      have e2 : numAt ps.toArray j = x := by rw [PySem.numAt_eq]; exact e
      rw [e2] at this
      exact this
    have := h g k t fun x o z => by
      refine hk x o (fun q => ?_) (Heap.get?_push_of_some _ (hold0 x o z))
      have := Heap.lt_size z
      rw [List.mem_singleton.mp q] at this
      have q2 : h1.objs.size < s.heap.objs.size := this
      rw [hs] at q2
      exact Nat.lt_irrefl _ (Nat.lt_of_succ_lt q2)
    rw [max_uniq (fun z => hn (List.map_eq_nil_iff.mp z)) hm hb]
    exact this
abbrev rmaxI : List V → Hp → VK → Prop := fun xs H Q => ∃ ns : List Int, xs = ns.map V.int ∧ 2 ≤ ns.length ∧ ns.length ≤ 1000 ∧ Q (.int (maxI ns)) H
theorem call_maxI {X : Cx} (hc : X.calm = true) (hok : ∀ a b r, argsOk "max" ⟨a :: b :: r, []⟩) : CallR X (.builtin "max") rmaxI := by
  intro pins s σ H xs us Q I r h
  obtain ⟨ns, rfl, h2, hz, q⟩ := h
  obtain ⟨ps, e1, rfl⟩ := vals_ints r
  match ps, e1 with
  | [], e1 => rw [← e1] at h2; exact absurd h2 (by decide)
  | [_], e1 => rw [← e1] at h2; exact absurd h2 (by simp)
  | p1 :: p2 :: pr, e1 =>
    have hl : (p1 :: p2 :: pr).length ≤ 1000 := by
      have := congrArg List.length e1
      rw [List.length_map] at this
      omega
    exact max_args (hok _ _ _) (by simpa using hl) (max_its (ps := p1 :: p2 :: pr) (I.ok.hd hc) (fun z => by cases z) hl fun g k t kk => ⟨.int (maxI ns), H, I.kept kk, ⟨t, by rw [e1]⟩, q⟩)
theorem n_maxI {J : Jx} {M : Ms} {P : Ent → Ms → Prop} {es : List Ent} {ds : List PyData} {ns : List Int} (he : dsOf es = some ds) (hd : intsOf ds = some ns) (h2 : Nat.ble 2 ns.length = true) (hz : Nat.ble ns.length 1000 = true) (p : P (.d (.int (maxI ns))) M) : ON J rmaxI es M P := fun F Z H vs m xr r1 Q q => by
  have e1 := dsOf_ok he
  have e2 := intsOf_ok hd
  subst e1
  subst e2
  exact ⟨ns, RpAll.ints (rpAll_of r1), Nat.le_of_ble_eq_true h2, Nat.le_of_ble_eq_true hz, q _ F H (.d (.int _)) M (Same.refl F) m (Rp.int _) p⟩
theorem min_its {P : Program} {w : World} {A : Around} {E : Value → Shared → Prop} {s : Shared} {Q : Value → Shared → Prop} (hh : A.handled = none) {ps : List (Int × Tok)} (hn : ps ≠ []) (hz : ps.length ≤ 1000)
    (h : ∀ g k t, (∀ x o, s.heap.get? x = some o → g.get? x = some o) → Q (.int (minI (ps.map (·.1))) t) { s with heap := g, toks := k }) : BW P w A .Lt (ps.map fun p => .int p.1 p.2) Q E s := by
  unfold BW
  have ea : (ps.map fun p => Value.int p.1 p.2).toArray = intItems ps.toArray := by simp [intItems]
  rw [ea]
  generalize hg : s.heap.push { cls := .type "tuple", data := .seq (intItems ps.toArray) } = h1
  have hs : h1.objs.size = s.heap.objs.size + 1 := by rw [← hg]; exact Heap.size_push ..
  have hT : h1.IsTuple s.heap.objs.size (intItems ps.toArray) := by rw [← hg]; exact ⟨_, Heap.get?_push_size _ rfl, rfl, 0, rfl⟩
  have hold0 : ∀ x o, s.heap.get? x = some o → h1.get? x = some o := fun x o z => by rw [← hg]; exact Heap.get?_push_of_some _ z
  have hn2 : 0 < (intItems ps.toArray).size := by
    have := List.length_pos_iff.mpr hn
    simpa [intItems] using this
  refine wpAny_pyIter_tuple hT ?_
  refine ⟨_, _, _, _, _, _, _, rfl, Walks.tuple (A := A.in1) hh _ s.heap.objs.size (Nat.ne_of_lt (by show _ < h1.objs.size; omega)) _, ⟨⟨⟨_, Heap.get?_push_size _ rfl, rfl, rfl⟩, hT.push _⟩, fun x hx => ?_⟩,
    ⟨hn2, CmpOf.ints_lt (numAt ps.toArray) fun _ _ => intItems_at⟩, fun v g k hp hk => ?_⟩
  · show x < (Heap.push h1 _).objs.size
    rw [Heap.size_push]
    rcases List.mem_cons.mp hx with rfl | hx
    · exact Nat.lt_succ_self _
    · rw [List.mem_singleton.mp hx, hs]
      exact Nat.lt_succ_of_lt (Nat.lt_succ_self _)
  · obtain ⟨t, rfl, hm⟩ := at_num hp
    have hb : ∀ x ∈ ps.map (·.1), numAt ps.toArray (argBest (fun i j => decide (numAt ps.toArray i < numAt ps.toArray j)) ((intItems ps.toArray).size - 1)) ≤ x := by
      intro x hx
      obtain ⟨j, hj, e⟩ := PySem.mem_getD hx
      rw [List.length_map] at hj
      have := (argBest_lt (numAt ps.toArray) ((intItems ps.toArray).size - 1)).2 j (by simp [intItems]; omega)
      have e2 : numAt ps.toArray j = x := by rw [PySem.numAt_eq]; exact e
      rw [e2] at this
      exact this
    have := h g k t fun x o z => by
      refine hk x o (fun q => ?_) (Heap.get?_push_of_some _ (hold0 x o z))
      have := Heap.lt_size z
      rw [List.mem_singleton.mp q] at this
      have q2 : h1.objs.size < s.heap.objs.size := this
      rw [hs] at q2
      exact Nat.lt_irrefl _ (Nat.lt_of_succ_lt q2)
    rw [min_uniq (fun z => hn (List.map_eq_nil_iff.mp z)) hm hb]
    exact this
abbrev rminI : List V → Hp → VK → Prop := fun xs H Q => ∃ ns : List Int, xs = ns.map V.int ∧ 2 ≤ ns.length ∧ ns.length ≤ 1000 ∧ Q (.int (minI ns)) H
theorem call_minI {X : Cx} (hc : X.calm = true) (hok : ∀ a b r, argsOk "min" ⟨a :: b :: r, []⟩) : CallR X (.builtin "min") rminI := by
  intro pins s σ H xs us Q I r h
  obtain ⟨ns, rfl, h2, hz, q⟩ := h
  obtain ⟨ps, e1, rfl⟩ := vals_ints r
  match ps, e1 with
  | [], e1 => rw [← e1] at h2; exact absurd h2 (by decide)
  | [_], e1 => rw [← e1] at h2; exact absurd h2 (by simp)
  | p1 :: p2 :: pr, e1 =>
    have hl : (p1 :: p2 :: pr).length ≤ 1000 := by
      have := congrArg List.length e1
      rw [List.length_map] at this
      omega
    exact min_args (hok _ _ _) (by simpa using hl) (min_its (ps := p1 :: p2 :: pr) (I.ok.hd hc) (fun z => by cases z) hl fun g k t kk => ⟨.int (minI ns), H, I.kept kk, ⟨t, by rw [e1]⟩, q⟩)
theorem n_minI {J : Jx} {M : Ms} {P : Ent → Ms → Prop} {es : List Ent} {ds : List PyData} {ns : List Int} (he : dsOf es = some ds) (hd : intsOf ds = some ns) (h2 : Nat.ble 2 ns.length = true) (hz : Nat.ble ns.length 1000 = true) (p : P (.d (.int (minI ns))) M) : ON J rminI es M P := fun F Z H vs m xr r1 Q q => by
  have e1 := dsOf_ok he
  have e2 := intsOf_ok hd
  subst e1
  subst e2
  exact ⟨ns, RpAll.ints (rpAll_of r1), Nat.le_of_ble_eq_true h2, Nat.le_of_ble_eq_true hz, q _ F H (.d (.int _)) M (Same.refl F) m (Rp.int _) p⟩
theorem max_ok {a b : Value} {r : List Value} : argsOk "max" ⟨a :: b :: r, []⟩ := by unfold argsOk; kernel_rfl
theorem min_ok {a b : Value} {r : List Value} : argsOk "min" ⟨a :: b :: r, []⟩ := by unfold argsOk; kernel_rfl
end Z
set_option Elab.async false
set_option linter.all false
set_option maxRecDepth 100000
set_option maxHeartbeats 4000000
namespace Z
open PySem PySem.Spec L2
/-! ## branches that are brought together again -/
def tJoinS (t : TS) : TS := t
theorem ps_join {X : Cx} {s : Stmt} {t : TS} (h : PS X s t) : PS X s (tJoinS t) := h
theorem EndOk.imp {K : PySem.W.Frag} {F : Wd} {Z : Hp} {D D' : Nd} {C : Ends} (h : EndOk K F Z D' C) (h1 : ∀ Γ M, D.nx Γ M → D'.nx Γ M) (h2 : ∀ e M, D.rt e M → D'.rt e M) (h3 : ∀ Γ M, D.bk Γ M → D'.bk Γ M) (h4 : ∀ Γ M, D.ct Γ M → D'.ct Γ M) : EndOk K F Z D C :=
  ⟨fun F' M' H' σ Γ s m e q => h.nx F' M' H' σ Γ s m e (h1 _ _ q), fun F' M' H' v e s m r q => h.rt F' M' H' v e s m r (h2 _ _ q), fun F' M' H' σ Γ s m e q => h.bk F' M' H' σ Γ s m e (h3 _ _ q), fun F' M' H' σ Γ s m e q => h.ct F' M' H' σ Γ s m e (h4 _ _ q)⟩
theorem s_join0 {J : Jx} {t : TS} {D : Nd} {Γ : Ga} {M : Ms} (R : Ga → Ms → Ga → Ms → Prop) (h : Sx J t { D with nx := R Γ M } Γ M) (k : ∀ Γ' M', R Γ M Γ' M' → D.nx Γ' M') : Sx J (tJoinS t) D Γ M := fun F Z σ H C en m x d =>
  h F Z σ H C en m x (d.imp k (fun _ _ q => q) (fun _ _ q => q) (fun _ _ q => q))
end Z
set_option Elab.async false
set_option linter.all false
set_option maxRecDepth 100000
set_option maxHeartbeats 4000000
/-! ## ValueError.__init__ by way of super() -/
namespace PySem
namespace ZVE
/-- ValueError.__init__ bound to an exception -/
abbrev bv (x : Addr) : Obj := { cls := .type "method-wrapper", dict := none, data := .fields #[.builtin "ValueError.__init__", .ref x], slots := #[] }
theorem type_vi : typeOf (.builtin "ValueError.__init__") = pure (.type "wrapper_descriptor") := by show builtinType _ = _; rw [builtinType_eq_fast]; kernel_rfl
theorem nav : (kfb_private% "nameAndClass") (Value.builtin "ValueError.__init__") = (pure (("__init__" : Str), Value.type "ValueError") : Sem (Str × Value)) := by kernel_rfl
section
open PySem.W
variable {prog : Program} {w : World} {M : Model} {A : Around} {E : Value → Shared → Prop} {h : Heap} {g : Array GenState} {d : Drawn} {t : Nat} {os : OsState}
theorem wd_run {x C : Addr} {P : Fin → Shared → Prop} (hin : W.Looks M h (isInstance (.ref x) (.type "ValueError")) true) (hq : P (.done (.ret (.ref h.objs.size))) ⟨h.push (bv x), g, d, t, os⟩) :
    wpAny M A (Builtin.«wrapper_descriptor.__get__» ⟨[.builtin "ValueError.__init__", .ref x, .ref C], []⟩) P E ⟨h, g, d, t, os⟩ := by
  unfold Builtin.«wrapper_descriptor.__get__»
  refine wpAny_bind (wpAny_of_eq (a := (.builtin "ValueError.__init__", some (.ref x), some (.ref C))) (by first | rfl | kernel_rfl) ?_)
  show wpAny M A ((kfb_private% "checkInstance") (.builtin "ValueError.__init__") (.ref x) >>= fun _ => newFields "method-wrapper" [.builtin "ValueError.__init__", .ref x] >>= fun r => ret r) P E _
  refine wpAny_bind ?_
  show wpAny M A ((kfb_private% "nameAndClass") (.builtin "ValueError.__init__") >>= _) _ E _
  refine wpAny_bind (wpAny_of_eq nav ?_)
  show wpAny M A (isInstance (.ref x) (.type "ValueError") >>= _) _ E _
  refine wpAny_bind (hin.at ?_)
  refine KFB.if_not rfl ?_
  refine wpAny_pure ?_
  exact wpAny_bind (wpAny_newObj_type (wpAny_pure hq))
theorem sup_ga {so D x C : Addr} {l₀ l : List Value} {K : Frag} {name : Str} {tk : Tok} {Q : Fin → Shared → Prop}
    (hso : h.get? so = some { cls := .type "super", dict := none, data := .fields #[.ref D, .ref x, .ref C], slots := #[] }) (hno : W.Looks (model prog w) h (opaqueClassAbove (.ref C)) none)
    (hC : W.Looks (model prog w) h (mroOf (.ref C)) l₀) (hl : (l₀.dropWhile (· != .ref D)).drop 1 = l) (X : K.In h)
    (hf : alongIn K name l = some (some (.builtin "ValueError.__init__"))) (hxC : x ≠ C) (hn : (name == ("__class__" : Str)) = false) (hin : W.Looks (model prog w) h (isInstance (.ref x) (.type "ValueError")) true)
    (hq : Q (.done (.ret (.ref h.objs.size))) ⟨h.push (bv x), g, d, t, os⟩) :
    wpAny (model prog w) A (Builtin.«super.__getattribute__» ⟨[.ref so, .str name tk], []⟩) Q E ⟨h, g, d, t, os⟩ := by
  have hlk := ESX.slot_wd.lookup
  have hne : (Value.ref x == Value.ref C) = false := by simp [hxC]
  have hTf := type_vi
  have hTi : Shared.TypeIs ⟨h, g, d, t, os⟩ (.builtin "ValueError.__init__") "wrapper_descriptor" := type_vi
  have hdt : ({ cls := .type "super", dict := none, data := .fields #[.ref D, .ref x, .ref C], slots := #[] } : Obj).data = .fields #[.ref D, .ref x, .ref C] := rfl
  have f0 : (#[.ref D, .ref x, .ref C] : Array Value)[0]? = some (.ref D) := rfl
  have f1 : (#[.ref D, .ref x, .ref C] : Array Value)[1]? = some (.ref x) := rfl
  have f2 : (#[.ref D, .ref x, .ref C] : Array Value)[2]? = some (.ref C) := rfl
  unfold Builtin.«super.__getattribute__»
  repeat (first
    | (with_reducible refine wpAny_field hso hdt f0 ?_) | (with_reducible refine wpAny_field hso hdt f1 ?_) | (with_reducible refine wpAny_field hso hdt f2 ?_)
    | (with_reducible refine ks_wpAny_notOpaque hno ?_)
    | (with_reducible refine Looks.at hC ?_; rw [hl])
    | (refine ks_forIn_along X (fun _ _ => rfl) rfl ?_ hf)
    | (with_reducible refine wpAny_call_entry ESX.slot_wd hTi ESX.entry_wd ?_ (ESX.args_wd _ _ _))
    | (with_reducible refine wd_run hin ?_)
    | (with_reducible refine ⟨_, rfl, ?_⟩)
    | (simp only [hn, hne, Bool.or_false, Bool.false_eq_true, if_false])
    | wp_step
    | dsimp only)
  all_goals exact hq
theorem sup_method {so D x C : Addr} {l₀ l : List Value} {K : Frag} {name : Str} {pl : Sem Bool} {Q : Value × List Value → Shared → Prop}
    (hso : h.get? so = some { cls := .type "super", dict := none, data := .fields #[.ref D, .ref x, .ref C], slots := #[] }) (hno : W.Looks (model prog w) h (opaqueClassAbove (.ref C)) none)
    (hC : W.Looks (model prog w) h (mroOf (.ref C)) l₀) (hl : (l₀.dropWhile (· != .ref D)).drop 1 = l) (X : K.In h)
    (hf : alongIn K name l = some (some (.builtin "ValueError.__init__"))) (hxC : x ≠ C) (hn : (name == ("__class__" : Str)) = false) (hin : W.Looks (model prog w) h (isInstance (.ref x) (.type "ValueError")) true)
    (hq : Q (.ref h.objs.size, []) ⟨h.push (bv x), g, d, t + 1, os⟩) :
    wpAny (model prog w) A (getMethod (.ref so) name pl) Q E ⟨h, g, d, t, os⟩ := by
  have hlk := F.ks_slot_super_ga.lookup
  have hcan := F.ks_canon_super_ga
  have hT : ∀ t', (⟨h, g, d, t', os⟩ : Shared).TypeIs (.ref so) "super" := fun _ => ⟨_, hso, rfl⟩
  unfold getMethod
  refine wpAny_bind (wpAny_specialOf (hT _) hlk ?_)
  show wpAny _ _ (if (Manifest.canonical "super.__getattribute__" != "object.__getattribute__") = true then _ else _) _ _ _
  rw [if_pos hcan]
  unfold getAttr getAttrBy
  refine wpAny_bind (wpAny_bind (wpAny_mkText (wpAny_holding (wpAny_bind (wpAny_typeOf (hT _) (wpAny_bind (wpAny_of_eq hlk ?_)))))))
  show wpAny _ _ (getAttrByItsOwn (.ref so) (.str name t) (.type "super") (.builtin "super.__getattribute__") true false) _ _ _
  unfold getAttrByItsOwn hookBefore callGetattribute boundAndCalled
  refine wpAny_bind (wpAny_of_eq (show (if onTheHeap (.type "super") then typeLookup (.type "super") "__getattr__" else pure none) = pure none from rfl) ?_)
  refine wpAny_bind (wpAny_attempt (wpAny_holding ?_))
  show wpAny _ _ (bindSpecial (.builtin "super.__getattribute__") (.ref so) >>= _) _ _ _
  refine wpAny_bind (wpAny_of_eq (F.ks_slot_super_ga.bind _) ?_)
  refine wpAny_mono (Q := fun v s' => v = .ref h.objs.size ∧ s' = ⟨h.push (bv x), g, d, t + 1, os⟩) (E := fun _ _ => False)
    (wpAny_call_entry F.ks_slot_super_ga (hT _) F.ks_entry_super_ga (sup_ga hso hno hC hl X hf hxC hn hin ⟨_, rfl, rfl, rfl⟩) (F.ks_gaArgs_super _ _)) (fun v s' hv => ?_) fun _ _ z => z.elim
  obtain ⟨rfl, rfl⟩ := hv
  exact wpAny_pure (wpAny_pure hq)
end
section
open PySem.W PySem.Calls PyProof.Rows
variable {prog : Program} {w : World} {M : Model} {A : Around} {E : Value → Shared → Prop} {s : Shared}
theorem call_with {pos : Pos} {u x : Addr} {first : List Value} {args : List (Bool × Sem Value)} {Q : Value → Shared → Prop} (hplain : args.any (·.1) = false)
    (h : wpAny M A (evalArgs (.ref u) true args []) (fun a s₁ => s₁.heap.get? u = some (bv x) ∧ wpAny M A (call (.ref u) (first ++ a.pos) a.kw) Q E s₁) E s) : wpAny M A (callWith pos (.ref u) first args []) Q E s := by
  unfold callWith
  refine wpAny_bind (wpAny_holding (wpAny_mono h (fun a s₁ h₁ => wpAny_bind (wpAny_standAt ?_)) fun _ _ x => x))
  obtain ⟨ho, hcall⟩ := h₁
  simp only [hplain, List.any_nil, Bool.or_false]
  refine wpAny_bind (m := keeperOf (.ref u)) ?_
  unfold keeperOf
  refine wpAny_bind (wpAny_load ho ?_)
  simp only [bv, show (Value.type "method-wrapper" != Value.type "method") = true by decide, show (Value.type "method-wrapper" == Value.type "builtin_function_or_method" || Value.type "method-wrapper" == Value.type "method-wrapper") = true by decide, if_true]
  refine wpAny_pure ?_
  exact wpAny_bind (wpAny_mono hcall (fun r s₂ hr => wpAny_bind (wpAny_holding (wpAny_point (wpAny_pure hr)))) fun _ _ x => x)
theorem call_bound {pos : Pos} {u x : Addr} {first : List Value} {env : Env} {e : Expr} {rest : List Expr} {Q : Value → Shared → Prop}
    (h : wpAny M A (spliced (backTo pos (starEach (e :: rest) env))) (fun vs s₁ => s₁.heap.get? u = some (bv x) ∧ wpAny M A (call (.ref u) (first ++ vs)) Q E s₁) E s)
    (he : starEach (e :: rest) env = (false, eval e env) :: starEach rest env := by rfl) (hplain : (backTo pos (starEach rest env)).any (·.1) = false := by rfl) :
    wpAny M A (callWith pos (.ref u) first (backTo pos (starEach (e :: rest) env)) []) Q E s := by
  rw [he] at h ⊢
  refine call_with (x := x) (by show (false || (backTo pos (starEach rest env)).any (·.1)) = false; rw [hplain]; rfl) ?_
  exact evalArgs_plain h
end
section
variable {prog : Program} {w : World} {A : Around} {E : Value → Shared → Prop} {h : Heap} {g : Array GenState} {d : Drawn} {t : Nat} {os : OsState}
variable {nm q : Str} {C N : Addr} {bs bm : List Value} {hdct : Bool} {sn : List Str} {sub : List Value} {ab : Bool} {col : Option Bool} {dd : Option Addr} {k0 k1 k2 k3 k5 : Option Value}
theorem call_bv {u e t0 : Addr} {rest : List Value} {Q : Value → Shared → Prop}
    (hC : h.get? C = some (excClassObj nm q C N bs bm hdct sn sub ab col dd k0 k1 k2 k3 k5 "ValueError.__new__")) (he : h.get? e = some (HandSPX.excO C t0)) (hu : h.get? u = some (bv e)) (hrest : rest.length ≤ sizeLine)
    (hq : ∀ h' t1, (∀ b o, b ≠ e → h.get? b = some o → h'.get? b = some o) → h'.get? e = some (HandSPX.excO C t1) → Q .none ⟨h', g, d, t, os⟩) :
    wpAny (model prog w) A (call (.ref u) rest) Q E ⟨h, g, d, t, os⟩ := by
  refine wpAny_call (codeAny_of_tree ?_)
  show wpAny _ A.in1 (callAny (.ref u) ⟨rest, []⟩) _ _ _
  simp only [callAny]
  refine wpAny_bind (wpAny_load hu ?_)
  simp only [bv, show (Value.type "method-wrapper" == Value.type "method" || Value.type "method-wrapper" == Value.type "builtin_function_or_method" || Value.type "method-wrapper" == Value.type "method-wrapper") = true by decide, if_true]
  refine W.KFB.if_so (by decide) ?_
  refine wpAny_bind (ESX.check_bound F.excBase_ValueError hC he rfl ?_)
  refine wpAny_bind (wpAny_pure (wpAny_pure ?_))
  refine ⟨Code.quiet_builtin _ (by decide +kernel), codeAny_builtin F.excBase_ValueError.initEntry ?_⟩
  rw [Around.under_plainId F.excBase_ValueError.init.plain _]
  wp_walk
  refine hq _ h.objs.size (fun b o hb ho => ?_) ?_
  · rw [Heap.get?_update_other _ _ (Ne.symm hb)]
    exact Heap.get?_push_of_some _ ho
  · rw [Heap.get?_update_self _ (Heap.get?_push_of_some _ he) rfl]
    rfl
end
end ZVE
end PySem
set_option Elab.async false
set_option linter.all false
set_option maxRecDepth 100000
set_option maxHeartbeats 4000000
namespace Z
open PySem PySem.Spec L2
/-! ## facts of own exception classes -/
/-- an own class over ValueError whose __init__ is its own -/
def oexB (K : PySem.W.Frag) (C : Addr) : Bool := match K.lookup C with
  | some ⟨.type "type", _, .cls cd, sl⟩ => (match cd.mro, sl.toList with
    | .ref C' :: bm, [_, _, _, _, some (.builtin n), _] => C' == C && (n == "ValueError.__new__" && (!cd.hasDel && (cd.hasDict && PySem.HandSPX.refsVE bm)))
    | _, _ => false)
  | _ => false
theorem oex_cls {K : PySem.W.Frag} {C : Addr} (h : oexB K C = true) : ∃ nm q N bs bm sn sub ab col dd k0 k1 k2 k3 k5, K.lookup C = some (excClassObj nm q C N bs bm true sn sub ab col dd k0 k1 k2 k3 k5 "ValueError.__new__") ∧ PySem.HandSPX.refsVE bm = true := by
  unfold oexB at h
  split at h
  · rename_i dd cd sl ho
    split at h
    · rename_i C' bm k0 k1 k2 k3 n k5 hm hs
      obtain ⟨h1, h⟩ := He.ba h
      obtain ⟨h2, h⟩ := He.ba h
      obtain ⟨h3, h⟩ := He.ba h
      obtain ⟨h4, h5⟩ := He.ba h
      obtain rfl : C' = C := beq_iff_eq.mp h1
      obtain rfl : n = "ValueError.__new__" := beq_iff_eq.mp h2
      obtain ⟨nm, bs, mro, ns, qn, hd, sn, sub, ab, col, del⟩ := cd
      dsimp only at hm h3 h4
      have h3' : del = false := by simpa using h3
      subst hm h3' h4
      have hsl : sl = #[k0, k1, k2, k3, some (.builtin "ValueError.__new__"), k5] := by
        obtain ⟨l⟩ := sl
        simp only at hs
        rw [hs]
      subst hsl
      exact ⟨nm, qn, ns, bs, bm, sn, sub, ab, col, dd, k0, k1, k2, k3, k5, ho, h5⟩
    · cases h
  · cases h
/-- the class cn: what its making by an own __init__ and its raising lean on -/
def fOex (cn : Str) : Fct := fun K => oexB K (He.ga K cn) && (decide (PySem.W.findIn K (.ref (He.ga K cn)) "__setattr__" = some (some (.builtin "object.__setattr__"))) && (decide (PySem.W.subIn K (.ref (He.ga K cn)) (.type "BaseException") = some true) && (decide (PySem.W.typeIn K (.ref (He.ga K cn)) = some (.type "type")) && PySem.W.keepIn K (.ref (He.ga K cn)))))
theorem oex_ok {K : PySem.W.Frag} {cn : Str} (h : fOex cn K = true) : OexC K (He.ga K cn) := by
  obtain ⟨a1, h⟩ := He.ba h
  obtain ⟨a2, h⟩ := He.ba h
  obtain ⟨a3, h⟩ := He.ba h
  obtain ⟨a4, a5⟩ := He.ba h
  exact ⟨oex_cls a1, of_decide_eq_true a2, of_decide_eq_true a3, of_decide_eq_true a4, a5⟩
/-- what super().__init__(..) in the class cn leans on -/
structure VsupC (K : PySem.W.Frag) (C : Addr) : Prop where
  sup : PySem.W.ks_superIn K C C "__init__" = some (some (.builtin "ValueError.__init__"))
  cls : ∃ cd, PySem.W.clsIn K C = some cd
  me : PySem.W.mroIn K C (.ref C) = some true
  ve : PySem.W.mroIn K C (.type "ValueError") = some true
  op : PySem.W.nsIn K cStatics "thirdparty.any" = some none
def fVsup (cn : Str) : Fct := fun K => decide (PySem.W.ks_superIn K (He.ga K cn) (He.ga K cn) "__init__" = some (some (.builtin "ValueError.__init__"))) && ((PySem.W.clsIn K (He.ga K cn)).isSome && (decide (PySem.W.mroIn K (He.ga K cn) (.ref (He.ga K cn)) = some true) && (decide (PySem.W.mroIn K (He.ga K cn) (.type "ValueError") = some true) && decide (PySem.W.nsIn K cStatics "thirdparty.any" = some none))))
theorem vsup_ok {K : PySem.W.Frag} {cn : Str} (h : fVsup cn K = true) : VsupC K (He.ga K cn) := by
  obtain ⟨a1, h⟩ := He.ba h
  obtain ⟨a2, h⟩ := He.ba h
  obtain ⟨a3, h⟩ := He.ba h
  obtain ⟨a4, a5⟩ := He.ba h
  exact ⟨of_decide_eq_true a1, Option.isSome_iff_exists.mp a2, of_decide_eq_true a3, of_decide_eq_true a4, of_decide_eq_true a5⟩
/-! ## super().__init__(e) in an exception's __init__ -/
def tSupV (K : PySem.W.Frag) (C : Addr) (t : TA) : TE := fun σ H Q => ∃ a, σ[0]? = some (some (.ref a)) ∧ OexC K C ∧ VsupC K C ∧ H a = some (exo a C none) ∧ t σ H fun vs H1 => vs.length ≤ 1000 ∧ H1 a = some (exo a C none) ∧ Q .non H1
section
variable {X : Cx} {C : Addr} {me : Str} {body : List Stmt} {e : Expr} {es : List Expr} {t : TA} {p0 p1 apos pos : Pos} {pl : Sem Bool}
theorem exo_inst {pins : List (Addr × Obj)} {s : Shared} {σ : L2.St} {H : Hp} {a : Addr} (I : Inv X pins σ H s) (e : H a = some (exo a C none)) : ∃ ox, PySem.W.InstAt s.heap a ox C none := by
  obtain ⟨t1, ho⟩ := exo_at I.hok e
  exact ⟨_, ho, rfl, rfl, trivial⟩
theorem pea_supV (S : SupAt X C me) (hN : X.N[0]? = some me) (ha : PA X (e :: es) t)
    (hst : starEach (e :: es) X.env = (false, eval e X.env) :: starEach es X.env := by rfl) (hpl : (backTo pos (starEach es X.env)).any (·.1) = false := by rfl)
    (ht : eval (.Call (.Attribute (.Call (.Name "super" p0) [] [] p1) "__init__" apos) (e :: es) [] pos) X.env = (do
      let ov ← attributeBase (.Call (.Name "super" p0) [] [] p1) "__init__" X.env (eval (.Call (.Name "super" p0) [] [] p1) X.env)
      standAt apos.atName
      let (f, first) ← holding [ov] (getMethod ov "__init__" pl)
      callWith pos f first (backTo pos (starEach (e :: es) X.env)) (backToKw pos (keywordEach [] X.env))) := by rfl) :
    PEA X body (.Call (.Attribute (.Call (.Name "super" p0) [] [] p1) "__init__" apos) (e :: es) [] pos) (tSupV X.K C t) := by
  refine ⟨fun pins s σ H Q I h => ?_⟩
  obtain ⟨a, hσ, T, V, ea, q⟩ := h
  obtain ⟨cd, hcd⟩ := V.cls
  obtain ⟨ox, J⟩ := exo_inst I ea
  rw [ht]
  refine PySem.wpAt_bind (super_ok S hN (by decide) I hσ J hcd V.me fun h' kp hso => ?_)
  have I2 : Inv X pins σ H { s with heap := h' } := I.kept (t' := s.toks) kp
  refine wpAt_of_wpAny (wpAny_bind (wpAny_standAt (wpAny_bind (wpAny_holding ?_))))
  obtain ⟨ox2, J2⟩ := exo_inst I2 ea
  have KI := I2.kIn
  have hne := PySem.W.ks_ne KI J2 hcd
  have hsu := V.sup
  unfold PySem.W.ks_superIn at hsu
  rw [hcd] at hsu
  have hin : PySem.W.Looks (model X.prog X.w) h' (isInstance (.ref a) (.type "ValueError")) true := J2.type.andThen (PySem.W.looks_mroIn KI V.ve)
  have push := ClX.pin_new (o := PySem.ZVE.bv a) (t' := s.toks + 1) I2 (fun _ _ z => Heap.get?_push_of_some _ z) (Nat.le_refl _) (Heap.get?_push_size h' rfl) (fun v z => nomatch z)
  refine PySem.ZVE.sup_method (so := s.heap.objs.size) hso (PySem.W.looks_opaque KI V.op) (l₀ := cd.mro) (fun A Q E s k q => wpAny_bind ((PySem.W.looks_clsIn KI hcd) A _ E s k (wpAny_pure q))) rfl KI hsu hne (by decide) hin ?_
  show wpAny _ _ (callWith pos _ [] (backTo pos (starEach (e :: es) X.env)) []) _ _ _
  refine PySem.ZVE.call_bound (x := a) (thn (ha.run pos _ _ σ H _ push q) fun us s3 ⟨vs, H2, I4, r, hl, ea2, q2⟩ => ?_) hst hpl
  refine ⟨ClX.pin_at I4, ?_⟩
  rw [List.nil_append]
  obtain ⟨nm, qn, N, bs, bm, sn, sub, ab, col, dd, k0, k1, k2, k3, k5, hC, hbm⟩ := T.cls
  obtain ⟨t1, ho⟩ := exo_at I4.hok ea2
  have hlen : us.length ≤ sizeLine := by
    rw [← Paired.length r, sizeLine_eq]
    omega
  have hu := ClX.pin_at I4
  obtain ⟨hp, g, d, tt, os⟩ := s3
  have z : wpAny (model X.prog X.w) X.A (call (.ref h'.objs.size) us) (EP X ((h'.objs.size, PySem.ZVE.bv a) :: pins) σ Q) X.xe ⟨hp, g, d, tt, os⟩ := by
    refine PySem.ZVE.call_bv (I4.kIn _ _ hC) ho hu hlen fun h'' t2 k hx => ?_
    have Jw := I4.write (t' := tt) (x := a) (e := a) (o := exo a C none) (by rw [ea2]; exact True.intro) (.inl rfl) k ⟨_, hx⟩ (exo_ok hx)
    have eu : upd H2 a (exo a C none) = H2 := by
      funext b
      by_cases hb : b = a
      · rw [hb, upd_same, ea2]
      · rw [upd_ne hb]
    rw [eu] at Jw
    exact ⟨.non, H2, Jw, rfl, q2⟩
  exact thn z fun _ _ y => ClX.unpinE y
end
/-! ## readings that leave the heap -/
def Qt (te : TE) (σ : L2.St) (H : Hp) (v : V) : Prop := ∀ Q : VK, Q v H → te σ H Q
def Qj (ts : List TE) (acc : Str) (σ : L2.St) (H : Hp) (out : Str) : Prop := ∀ B : Str → Hp → Prop, B out H → tJs ts acc σ H B
section
variable {σ : L2.St} {H : Hp} {te : TE} {ts : List TE} {acc out s y : Str}
theorem qt_c {v : V} : Qt (tC v) σ H v := fun Q q => q
theorem qt_var {i : Nat} {v : V} (h : σ[i]? = some (some v)) : Qt (tVar i) σ H v := fun Q q => ⟨v, h, q⟩
theorem qt_fmtS (h : Qt te σ H (.str s)) (hl : s.length ≤ sizeLine) : Qt (tFmt te) σ H (.str s) := fun Q q => h _ (.inl ⟨s, rfl, hl, q⟩)
theorem qt_fmtI {i : Int} (h : Qt te σ H (.int i)) (hl : i.natAbs.log2 < 1920) : Qt (tFmt te) σ H (.str (Str.ofString (toString i))) := fun Q q => h _ (.inr ⟨i, rfl, hl, q⟩)
theorem qj_nil : Qj [] acc σ H acc := fun B b => b
theorem qj_cons (h : Qt te σ H (.str y)) (hl : (acc ++ y).length ≤ sizeLine) (r : Qj ts (acc ++ y) σ H out) : Qj (te :: ts) acc σ H out := fun B b => h _ ⟨y, rfl, hl, r B b⟩
theorem qt_join (h : Qj ts Str.empty σ H out) : Qt (tJoin ts) σ H (.str out) := fun Q q => h _ q
end
/-- what is written into a message -/
def FmtV : V → Prop
  | .str s => s.length ≤ 1000000
  | .int i => 0 ≤ i ∧ i < 1000000000
  | _ => False
def FmtE : Ent → Prop
  | .d (.str s) => s.length ≤ 1000000
  | .d (.int i) => 0 ≤ i ∧ i < 1000000000
  | _ => False
theorem fmt_re {K : PySem.W.Frag} {F : Wd} {v : V} {e : Ent} (r : RE K F v e) (h : FmtE e) : FmtV v := by
  cases e with
  | d x =>
    cases x with
    | str s => cases r; exact h
    | int i => cases r; exact h
    | none => exact h.elim
    | bool b => exact h.elim
    | list b => exact h.elim
    | tuple b => exact h.elim
    | dict b => exact h.elim
  | r n => exact h.elim
  | w n => exact h.elim
  | t n => exact h.elim
  | g n => exact h.elim
theorem fmt_qt {σ : L2.St} {H : Hp} {te : TE} {v : V} (h : Qt te σ H v) (hf : FmtV v) : ∃ s : Str, s.length ≤ 1000000 ∧ Qt (tFmt te) σ H (.str s) := by
  cases v with
  | str s => exact ⟨s, hf, qt_fmtS h (Nat.le_trans hf (by rw [sizeLine_eq]; decide))⟩
  | int i =>
    obtain ⟨h0, h1⟩ := hf
    refine ⟨Str.ofString (toString i), ?_, qt_fmtI h (log_small (k := 1000000000) (by omega) (by decide +kernel))⟩
    obtain ⟨k, rfl⟩ := Int.eq_ofNat_of_zero_le h0
    rw [len_cs, cs_num]
    have := TL.numL_len (k := 9) (n := k) (by decide) (by omega)
    omega
  | _ => exact hf.elim
/-! ## an exception with one field, told by its message -/
/-- __init__(self, x): super().__init__(f'..'); self.f = x -/
def spX (K : PySem.W.Frag) (C : Addr) (f : Str) : Sp := fun vs H Q E => ∃ a y, vs = [.ref a, y] ∧ FmtV y ∧ H a = some (exo a C none) ∧ ∀ dx, H dx = none → dx ≠ a → Q .non (upd (upd H dx (exd dx [(f, y)])) a (exo a C (some dx)))
theorem spX_run {K : PySem.W.Frag} {C : Addr} {f : Str} {ts : List TE} {σ : L2.St} {H : Hp} {a : Addr} {y : V} {D : Ends} (T : OexC K C) (V : VsupC K C) (hno : PySem.W.findIn K (.ref C) f = some none) (h0 : σ[0]? = some (some (.ref a))) (h1 : σ[1]? = some (some y)) (ea : H a = some (exo a C none))
    (hj : ∃ out, Qj ts Str.empty σ H out) (q : ∀ dx, H dx = none → dx ≠ a → D.nx σ (upd (upd H dx (exd dx [(f, y)])) a (exo a C (some dx)))) :
    tSeq (tDrop (tSupV K C (tCons (tJoin ts) tNil))) (tOst K f (tVar 0) (tVar 1)) D σ H := by
  obtain ⟨out, hj⟩ := hj
  refine ⟨a, h0, T, V, ea, qt_join hj _ ?_⟩
  refine ⟨Nat.le_of_ble_eq_true rfl, ea, ?_⟩
  exact ⟨y, h1, _, h0, a, C, rfl, T, hno, .inl ⟨ea, q⟩⟩
end Z
set_option Elab.async false
set_option linter.all false
set_option maxRecDepth 100000
set_option maxHeartbeats 4000000
namespace Z
open PySem PySem.Spec L2
/-! ## raise -/
def tRaise (W : WX) (t : L2.St → Hp → XK → Prop) : TS := fun _ σ H => t σ H fun cls d H' => W cls d σ H'
theorem ps_raiseZ {X : Cx} {W : WX} {e : Expr} {t : L2.St → Hp → XK → Prop} {pos : Pos} (hc : X.calm = true) (tk : Takes X W) (he : PMk X e t) : PS X (.Raise (some e) none pos) (tRaise W t) := ps_raise hc tk he
theorem xdOk_mono {K : PySem.W.Frag} {F F' : Wd} (s : Same F F') : ∀ {od : Option Addr} {xs : List (Str × Ent)}, XdOk K F od xs → XdOk K F' od xs
  | none, _, h => h
  | some _, _, ⟨vs, e, r⟩ => ⟨vs, s.F _ _ e, Paired.mapP r fun _ _ q => ⟨q.1, q.2.mono s⟩⟩
/-- what is let out: as the frame around says, or nothing -/
inductive LetX (J : Jx) : WX → (Ga → Xa) → Prop
  | as : LetX J J.E J.X
  | no : LetX J (fun _ _ _ _ => False) (fun _ _ _ _ => False)
theorem LetX.run {J : Jx} {W : WX} {Y : Ga → Xa} (l : LetX J W Y) {F F' : Wd} {Z H' : Hp} {M' : Ms} {σ : L2.St} {Γ : Ga} {c : Value} {od : Option Addr} {xs : List (Str × Ent)} (x : XR J F Z) (s : Same F F') (m : Mem J.K F' M' Z H') (e : EnvOk J.K F' σ Γ) (q : Y Γ c xs M') (o : XdOk J.K F' od xs) : W c od σ H' := by
  cases l with
  | as => exact x.run F' H' M' σ Γ c od xs s m e q o
  | no => exact q.elim
section
variable {J : Jx} {Γ : Ga} {M : Ms} {D : Nd} {C : Addr} {f : Str} {ta : TA} {W : WX} {Y : Ga → Xa}
/-- raise C(e), C's __init__ as spX -/
theorem s_raiseX (l : LetX J W Y) (h : WA J ta Γ M fun es M1 => ∃ e, es = [e] ∧ FmtE e ∧ Y Γ (.ref C) [(f, e)] M1) : Sx J (tRaise W (tMkO C (spX J.K C f) [] ta)) D Γ M := fun F Z σ H Cc en m x d =>
  h F Z σ H en m x _ fun vs F1 H1 es M1 s1 m1 r1 ⟨e, he, hf, hx⟩ => by
    subst he
    cases r1 with
    | cons ry rn =>
      rename_i y _
      cases rn
      refine ⟨Nat.le_of_ble_eq_true rfl, fun a na => ⟨a, y, rfl, fmt_re ry hf, upd_same, fun dx nd ne => ?_⟩⟩
      have nd1 : H1 dx = none := by rw [upd_ne ne] at nd; exact nd
      refine ⟨rfl, dx, [(f, y)], upd_same, by rw [upd_ne ne, upd_same], nd1, ?_⟩
      have eH : upd (del (upd (upd (upd H1 a (exo a C none)) dx (exd dx [(f, y)])) a (exo a C (some dx))) a) dx (.xd [(f, y)]) = upd H1 dx (.xd [(f, y)]) := by
        funext b
        by_cases hb : b = dx
        · rw [hb, upd_same, upd_same]
        · rw [upd_ne hb, upd_ne hb]
          by_cases ha : b = a
          · rw [ha, del_same, na]
          · rw [del_ne ha, upd_ne ha, upd_ne hb, upd_ne ha]
      rw [eH]
      obtain ⟨s3, m3⟩ := m1.newF (o := .xd [(f, y)]) nd1
      exact l.run x (s1.trans s3) m3 (en.mono (s1.trans s3)) hx ⟨_, upd_same, .cons ⟨rfl, ry.mono s3⟩ .nil⟩
/-- raise C('..'), C without __init__ -/
def tMk0 (C : Addr) : L2.St → Hp → XK → Prop := fun _ H Q => Q (.ref C) none H
theorem s_raise0 (l : LetX J W Y) (h : Y Γ (.ref C) [] M) : Sx J (tRaise W (tMk0 C)) D Γ M := fun F Z σ H Cc en m x d => l.run x (Same.refl F) m en h rfl
end
/-! ## the class's own __init__ -/
structure Ce (P : Program) (w : World) (K : PySem.W.Frag) (mg : Str → Option Value) (base : Heap) (cx : CXT) (cn : Str) (x qual : Str) (st : Stmt) (k : Nat) (ps : List Str) (sp : Sp) : Prop where
  ex : ∃ fd : FuncData, FnOk P w K mg base cx k (He.fAd K (cn, some ("__init__" : Str))) fd ps sp ∧ FunB K x qual (defArgs st) (defBody st) (defScope st) [] [] fd
theorem ce_sup {fs : List Fct} {fn : List DefQ} {K : PySem.W.Frag} {mg : Str → Option Value} {P : Program} {w : World} {base : Heap} {cx : CXT} {x qual file cn : Str} {st : Stmt} {k : Nat} {ps : List Str} {sp : Sp} (T : Top fs fn K mg) (i : Nat) (hi : fn[i]? = some (dm (cn, some ("__init__" : Str)) x qual st [] [] (some (file, cn))))
    (ok : ∀ fd, FunS K file x qual (defArgs st) (defBody st) (defScope st) [] [] (He.ga K cn) (He.fAd K (cn, some ("__init__" : Str))) fd → FnOk P w K mg base cx k (He.fAd K (cn, some ("__init__" : Str))) fd ps sp) : Ce P w K mg base cx cn x qual st k ps sp := by
  obtain ⟨fd, F⟩ := T.defS i hi rfl
  have F' : FunS K file x qual (defArgs st) (defBody st) (defScope st) [] [] (He.ga K cn) (He.fAd K (cn, some ("__init__" : Str))) fd := F
  exact ⟨fd, ok fd F', b_ofS F'⟩
theorem bB {K : PySem.W.Frag} {x qual : Str} {params : Arguments} {body : List Stmt} {scope : Scope} {fd : FuncData} {ps : List Str} (F : FunB K x qual params body scope [] [] fd)
    (h : ∀ (cl : List (Str × Addr)) (kV doc pm : Value) (an : Option Addr) (cdv ct : Value) (us : List Value), us.length = ps.length → bindArgs (PySem.W.fnX x qual params body scope cl .none kV doc pm an cdv ct) ⟨us, []⟩ = pure (ps.zip us)) : Binds K fd ps [] := by
  obtain ⟨cl, dV, kV, doc, pm, an, cdv, ct, rfl, hD, hK⟩ := F.ex
  rcases hD with ⟨_, rfl⟩ | ⟨e, _⟩
  · exact .all (h cl kV doc pm an cdv ct)
  · exact absurd rfl e
def fXini (cn : Str) : Fct := fun K => decide (PySem.W.findIn K (.ref (He.ga K cn)) "__init__" = some (some (.ref (He.fAd K (cn, some ("__init__" : Str)))))) && decide (PySem.W.typeIn K (.ref (He.fAd K (cn, some ("__init__" : Str)))) = some (.type "function"))
section
variable {X : Cx} {K : PySem.W.Frag} {cn x qual : Str} {st : Stmt} {k j : Nat} {ps : List Str} {sp : Sp} {p pos : Pos} {e : Expr} {es : List Expr} {ta : TA}
theorem pmk_oexZ (h : X.K = K) (o1 : fOex cn K = true) (o2 : fXini cn K = true) (C : Ce X.prog X.w K X.mg X.base CX0 cn x qual st k ps sp) (hr : Room j X.A) (hj : k + 1 ≤ j) (hg : Gl X cn) (hm : X.mg cn = some (.ref (He.ga K cn)))
    (hb : ∀ (cl : List (Str × Addr)) (kV doc pm : Value) (an : Option Addr) (cdv ct : Value) (us : List Value), us.length = ps.length → bindArgs (PySem.W.fnX x qual (defArgs st) (defBody st) (defScope st) cl .none kV doc pm an cdv ct) ⟨us, []⟩ = pure (ps.zip us)) (ha : PA X (e :: es) ta)
    (hdb : (cn == ("__debug__" : Str)) = false := by decide) (he : starEach (e :: es) X.env = (false, eval e X.env) :: starEach es X.env := by rfl) (hpl : (backTo pos (starEach es X.env)).any (·.1) = false := by rfl) :
    PMk X (.Call (.Name cn p) (e :: es) [] pos) (tMkO (He.ga K cn) sp [] ta) := by
  subst h
  obtain ⟨fd, F, B⟩ := C.ex
  obtain ⟨a1, a2⟩ := He.ba o2
  exact pmk_oex (CX := CX0) (oex_ok o1) (of_decide_eq_true a1) (of_decide_eq_true a2) F (hr.mono hj) (bB B hb) .nil (fun _ _ _ _ _ _ _ z => z.elim) hg hm ha hdb he hpl
end
section
variable {P : Program} {w : World} {K : PySem.W.Frag} {mg : Str → Option Value} {base : Heap} {x qual file : Str} {params : Arguments} {body : List Stmt} {scope : Scope} {D f : Addr} {fd : FuncData} {ar : Arg}
/-- __init__(self, x): super().__init__(f'..'); self.f = x -/
theorem ini_ok {N ps : List Str} {k : Nat} {fl : Str} {ts : List TE} (F : FunS K file x qual params body scope [] [] D f fd) (S : SScope N ps scope) (hfile : (P.main.file : Str) = file) (htop : (P.main.scope.names.lookup ("super" : Str)).isSome = false) (hmg : mg "super" = none)
    (har : (params.posonlyargs ++ params.args).head? = some ar) (hself : scope.names.lookup ar.arg = some .local) (T : OexC K D) (V0 : VsupC K D) (hno : PySem.W.findIn K (.ref D) fl = some none) (h2 : ps.length = 2)
    (hbody : ∀ (cda cc : Addr) (A : Around) (outer : List Env) (s : Shared) (H : Hp) (E : XK), Room k (A.deeper (envS qual scope s.heap.objs.size f cda cc)) → SupAt (cxS CX0 P w K mg base N qual scope f cda cc A outer s H E) D ar.arg →
      PSsA (cxS CX0 P w K mg base N qual scope f cda cc A outer s H E) body body (tSeq (tDrop (tSupV K D (tCons (tJoin ts) tNil))) (tOst K fl (tVar 0) (tVar 1))))
    (hj : ∀ (σ : L2.St) (H : Hp) (y : V), σ[1]? = some (some y) → FmtV y → ∃ out, Qj ts Str.empty σ H out) : FnOk P w K mg base CX0 (k + 1) f fd ps (spX K D fl) := by
  refine FunS.ok F S hfile htop hmg har hself (fun vs H Q E ⟨a, y, e, _⟩ => by rw [e]; exact h2.symm) fun cda cc A outer s H vs Q E hr sup hsp => ?_
  obtain ⟨a, y, rfl, hf, ea, hq⟩ := hsp
  exact ⟨_, hbody cda cc A outer s H E hr sup, spX_run T V0 hno rfl rfl ea (hj _ _ y rfl hf) fun dx n ne => hq dx n ne⟩
/-- a def that may let an exception out -/
theorem fn_okX {N ps : List Str} {k : Nat} {c : ASp} {CX : CXT} {dvs : List V} {kws : List (Str × V)} (F : FunD K x qual params body scope dvs kws f fd) (S : FnScope N ps scope) (len : ∀ es M Q X, c es M Q X → es.length = ps.length)
    (h : ∀ (cdv : Value) (A : Around) (outer : List Env) (s : Shared) (H : Hp) (E : XK), Room k (A.deeper (PyProof.Rows.envOfC qual scope s.heap.objs.size f cdv)) →
      ∃ t, PSs (cxOf CX P w K mg base N qual scope f cdv A outer s H E) body t ∧ ∀ es M Q X, c es M Q X → Sx (defJ K E (FinX M.length X)) t { nx := fun _ M' => Fin M.length Q (.d .none) M', rt := Fin M.length Q } (startG N es) M) : FnOk P w K mg base CX (k + 1) f fd ps (spA K c) := by
  refine FunD.ok F S (fun vs H Q E ⟨F, Z, M, es, Qa, X, r, _, hc, _⟩ => r.length.trans (len es M Qa X hc)) fun cdv A outer s H vs Q E hr hsp => ?_
  obtain ⟨F, Z, M, es, Qa, X, r, m, hc, hq, hx⟩ := hsp
  obtain ⟨t, ht, hs⟩ := h cdv A outer s H E hr
  exact ⟨t, ht, fin_run hs r m hc hq hx⟩
theorem fnS_okX {N ps : List Str} {k : Nat} {c : ASp} {CX : CXT} {dvs : List V} {kws : List (Str × V)} (F : FunS K file x qual params body scope dvs kws D f fd) (S : SScope N ps scope) (hfile : (P.main.file : Str) = file) (htop : (P.main.scope.names.lookup ("super" : Str)).isSome = false) (hmg : mg "super" = none)
    (har : (params.posonlyargs ++ params.args).head? = some ar) (hself : scope.names.lookup ar.arg = some .local) (len : ∀ es M Q X, c es M Q X → es.length = ps.length)
    (h : ∀ (cda cc : Addr) (A : Around) (outer : List Env) (s : Shared) (H : Hp) (E : XK), Room k (A.deeper (envS qual scope s.heap.objs.size f cda cc)) → SupAt (cxS CX P w K mg base N qual scope f cda cc A outer s H E) D ar.arg →
      ∃ t, PSsA (cxS CX P w K mg base N qual scope f cda cc A outer s H E) body body t ∧ ∀ es M Q X, c es M Q X → Sx (defJ K E (FinX M.length X)) t { nx := fun _ M' => Fin M.length Q (.d .none) M', rt := Fin M.length Q } (startG N es) M) : FnOk P w K mg base CX (k + 1) f fd ps (spA K c) := by
  refine FunS.ok F S hfile htop hmg har hself (fun vs H Q E ⟨F, Z, M, es, Qa, X, r, _, hc, _⟩ => r.length.trans (len es M Qa X hc)) fun cda cc A outer s H vs Q E hr sup hsp => ?_
  obtain ⟨F, Z, M, es, Qa, X, r, m, hc, hq, hx⟩ := hsp
  obtain ⟨t, ht, hs⟩ := h cda cc A outer s H E hr sup
  exact ⟨t, ht, fin_run hs r m hc hq hx⟩
end
/-! ## try -/
abbrev ETab := List (Value × Bool)
abbrev Suit := Addr → Value → Option Addr → TS
/-- try: .. except X: suite -/
def tTryO (K : PySem.W.Frag) (c : Value) (tab : ETab) (_ : ∀ p ∈ tab, PySem.W.exmOne K p.1 c = some p.2) (ts : Suit) (Wout : WX) (tb : WX → TS) : TS := fun D σ H => tb (wOnly K c ts Wout D) D σ H
/-- try: .. except X as n: suite -/
def tTryA (K : PySem.W.Frag) (c : Value) (tab : ETab) (_ : ∀ p ∈ tab, PySem.W.exmOne K p.1 c = some p.2) (i : Nat) (ts : Suit) (Wout : WX) (tb : WX → TS) : TS := fun D σ H => tb (wAs K c i ts Wout D) D σ H
/-- in the suite: the exception in hand -/
abbrev inX (J : Jx) (od : Option Addr) (xs : List (Str × Ent)) : Jx := ⟨J.K, J.E, J.X, fun F => J.G F ∧ XdOk J.K F od xs⟩
theorem xr_inX {J : Jx} {F : Wd} {Z : Hp} {od : Option Addr} {xs : List (Str × Ent)} (x : XR J F Z) (o : XdOk J.K F od xs) : XR (inX J od xs) F Z := ⟨x.run, fun F' s => ⟨x.g F' s, xdOk_mono s o⟩⟩
abbrev goN (D : Nd) (i : Nat) : Nd := { nx := fun Γ' M' => D.nx (Γ'.set i none) M', rt := D.rt, bk := fun Γ' M' => D.bk (Γ'.set i none) M', ct := fun Γ' M' => D.ct (Γ'.set i none) M' }
section
variable {J : Jx} {Γ : Ga} {M : Ms} {D : Nd} {c : Value} {tab : ETab} {ht : ∀ p ∈ tab, PySem.W.exmOne J.K p.1 c = some p.2} {ts : Suit} {tb : WX → TS} {Wout : WX} {Y : Ga → Xa} {i : Nat}
theorem s_tryO (l : LetX J Wout Y) (h : ∀ W : WX, Sx ⟨J.K, W, fun Γ' cls xs M' => ∃ b, (cls, b) ∈ tab ∧ (b = true → ∀ a od, Sx (inX J od xs) (ts a cls od) D Γ' M') ∧ (b = false → Y Γ' cls xs M'), J.G⟩ (tb W) D Γ M) : Sx J (tTryO J.K c tab ht ts Wout tb) D Γ M := fun F Z σ H C en m x d =>
  h (wOnly J.K c ts Wout C) F Z σ H C en m ⟨fun F' H' M' σ' Γ' cls od xs s m' e ⟨b, hb, hy, hn⟩ o => ⟨b, ht _ hb, fun eb a na => hy eb a od F' Z σ' H' C e m' (xr_inX (x.mono s) o) (d.mono s), fun eb => l.run x s m' e (hn eb) o⟩, x.g⟩ d
theorem s_tryA (l : LetX J Wout Y) (h : ∀ W : WX, Sx ⟨J.K, W, fun Γ' cls xs M' => ∃ b, (cls, b) ∈ tab ∧ (b = true → ∀ a od, Sx (inX J od xs) (ts a cls od) (goN D i) (Γ'.set i (some (.g a))) M') ∧ (b = false → Y Γ' cls xs M'), J.G⟩ (tb W) D Γ M) : Sx J (tTryA J.K c tab ht i ts Wout tb) D Γ M := fun F Z σ H C en m x d =>
  h (wAs J.K c i ts Wout C) F Z σ H C en m ⟨fun F' H' M' σ' Γ' cls od xs s m' e ⟨b, hb, hy, hn⟩ o => ⟨b, ht _ hb, fun eb a na => hy eb a od F' Z _ H' _ (e.set i rfl) m' (xr_inX (x.mono s) o)
      ⟨fun F2 M2 H2 σ2 Γ2 s2 m2 e2 q => (d.mono s).nx F2 M2 H2 _ _ s2 m2 (e2.wipe1 i none) q, (d.mono s).rt, fun F2 M2 H2 σ2 Γ2 s2 m2 e2 q => (d.mono s).bk F2 M2 H2 _ _ s2 m2 (e2.wipe1 i none) q, fun F2 M2 H2 σ2 Γ2 s2 m2 e2 q => (d.mono s).ct F2 M2 H2 _ _ s2 m2 (e2.wipe1 i none) q⟩, fun eb => l.run x s m' e (hn eb) o⟩, x.g⟩ d
end
section
variable {X : Cx} {K : PySem.W.Frag} {x n : Str} {c : Value} {tab : ETab} {i : Nat} {body suite : List Stmt} {b₀ : Stmt} {np pos pos' : Pos} {tb : WX → TS} {ts : Suit} {Wout : WX}
theorem ks_tryO {ht : ∀ p ∈ tab, PySem.W.exmOne K p.1 c = some p.2} (h : X.K = K) (hs : X.stack = X.env :: X.outer) (hf : X.env.frame = some X.env.locals) (hc : Names X x c) (tk : Takes X Wout)
    (hb : ∀ (W : WX) (pn : List (Addr × Obj)) (xe : Value → Shared → Prop), Takes (X.tr pn xe) W → PassesOwn (model X.prog X.w) X.A X.env xe → PSs (X.tr pn xe) body (tb W))
    (hsu : ∀ (a : Addr) (oe : Obj) (cls : Value) (d : Option Addr) (pn : List (Addr × Obj)), Zc cls d oe → (∃ vs, oe.data = .fields vs) → PSs (X.suite a ((a, oe) :: pn)) (b₀ :: suite) (ts a cls d)) :
    PS X (.Try body [.ExceptHandler (some (.Name x np)) none (b₀ :: suite) pos'] [] [] pos) (tTryO K c tab ht ts Wout tb) := by
  subst h
  exact ps_try_only hs hf hc tk hb hsu
theorem ks_tryA {ht : ∀ p ∈ tab, PySem.W.exmOne K p.1 c = some p.2} (h : X.K = K) (hs : X.stack = X.env :: X.outer) (hf : X.env.frame = some X.env.locals) (hN : X.N.Nodup) (hi : X.N[i]? = some n) (hln : X.env.kindOf n = some .local) (hc : Names X x c) (tk : Takes X Wout)
    (hb : ∀ (W : WX) (pn : List (Addr × Obj)) (xe : Value → Shared → Prop), Takes (X.tr pn xe) W → PassesOwn (model X.prog X.w) X.A X.env xe → PSs (X.tr pn xe) body (tb W))
    (hsu : ∀ (a : Addr) (oe : Obj) (cls : Value) (d : Option Addr) (pn : List (Addr × Obj)), Zc cls d oe → (∃ vs, oe.data = .fields vs) → PSs (X.suite a ((a, oe) :: pn)) (b₀ :: suite) (ts a cls d)) :
    PS X (.Try body [.ExceptHandler (some (.Name x np)) (some n) (b₀ :: suite) pos'] [] [] pos) (tTryA K c tab ht i ts Wout tb) := by
  subst h
  exact ps_try_as hs hf hN hi hln hc tk hb hsu
end
/-- the classes that a clause names or not -/
def fExm (x y : Str) (b : Bool) : Fct := fun K => decide (PySem.W.exmOne K (.ref (He.ga K x)) (.ref (He.ga K y)) = some b)
theorem et_nil {K : PySem.W.Frag} {c : Value} : ∀ p ∈ ([] : ETab), PySem.W.exmOne K p.1 c = some p.2 := fun _ h => by cases h
theorem et_cons {K : PySem.W.Frag} {x y : Str} {b : Bool} {tab : ETab} (h : fExm x y b K = true) (r : ∀ p ∈ tab, PySem.W.exmOne K p.1 (.ref (He.ga K y)) = some p.2) : ∀ p ∈ ((Value.ref (He.ga K x), b) :: tab : ETab), PySem.W.exmOne K p.1 (.ref (He.ga K y)) = some p.2 := fun p hp => by
  rcases List.mem_cons.mp hp with rfl | hp
  · exact of_decide_eq_true h
  · exact r p hp
/-! ## e.f in a suite -/
def fXf (cn f : Str) : Fct := fun K => xfB K (He.ga K cn) && decide (PySem.W.findIn K (.ref (He.ga K cn)) f = some none)
theorem ke_xf {X : Cx} {K : PySem.W.Frag} {a : Addr} {cn : Str} {oe : Obj} {cls : Value} {d : Option Addr} {pn : List (Addr × Obj)} {e : Expr} {te : TE} {pos : Pos} {n : Str} (h : X.K = K) (hx : fXf cn n K = true) (hz : Zc cls d oe) (hf : ∃ vs, oe.data = .fields vs) (he : PE (X.suite a ((a, oe) :: pn)) e te)
    (hb : attributeBase e n X.env (eval e X.env) = eval e X.env := by rfl) : PE (X.suite a ((a, oe) :: pn)) (.Attribute e n pos) (tXf a cls d (He.ga K cn) n te) := by
  subst h
  obtain ⟨a1, a2⟩ := He.ba hx
  exact pe_xf (xfB_ok a1) (of_decide_eq_true a2) hz hf he hb
theorem look_res {K : PySem.W.Frag} {F : Wd} : ∀ {vs : List (Str × V)} {xs : List (Str × Ent)} {f : Str} {e : Ent}, Paired (fun (p : Str × V) (q : Str × Ent) => p.1 = q.1 ∧ RE K F p.2 q.2) vs xs → xs.lookup f = some e → ∃ v, vs.lookup f = some v ∧ RE K F v e
  | _, _, f, e, .nil, h => by cases h
  | (g, u) :: vs, (g', e') :: xs, f, e, .cons ⟨q1, q2⟩ r, h => by
    have q1 : g = g' := q1
    subst q1
    rw [List.lookup_cons] at h ⊢
    cases hb : (f == g) with
    | true =>
      rw [hb] at h
      cases h
      exact ⟨u, rfl, q2⟩
    | false =>
      rw [hb] at h
      exact look_res r h
theorem w_xf {J : Jx} {Γ : Ga} {M : Ms} {P : Ent → Ms → Prop} {a : Addr} {cls : Value} {od : Option Addr} {xs : List (Str × Ent)} {C : Addr} {f : Str} {te : TE} (hG : ∀ F, J.G F → XdOk J.K F od xs) (hc : cls = .ref C) (h : Wx J te Γ M fun x M1 => x = .g a ∧ ∃ e, xs.lookup f = some e ∧ P e M1) : Wx J (tXf a cls od C f te) Γ M P := fun F Z σ H en m x Q q =>
  h F Z σ H en m x _ fun v F1 H1 e0 M1 s1 m1 r1 ⟨e1, e, hl, p⟩ => by
    subst e1
    have ev : v = .ref a := r1
    subst ev
    have o := hG F1 (x.g F1 s1)
    cases od with
    | none =>
      have o' : xs = [] := o
      rw [o'] at hl
      cases hl
    | some d =>
      obtain ⟨vs, eF, rr⟩ := o
      obtain ⟨v, hv, re⟩ := look_res rr hl
      exact ⟨rfl, hc, d, vs, v, rfl, m1.sub _ _ eF, hv, q v F1 H1 e M1 s1 m1 re p⟩
end Z
set_option Elab.async false
set_option linter.all false
set_option maxRecDepth 100000
set_option maxHeartbeats 4000000
/-! ## isinstance of an exception that is in hand -/
namespace PySem.W
open PySem PySem.Spec PySem.Calls PyProof.Rows
section
variable {prog : Program} {w : World} {A : Around} {E : Value → Shared → Prop} {s : Shared} {K : Frag} {x D : Addr} {ox : Obj} {od : Option Obj}
theorem zc_class {Q : Option Value → Shared → Prop} (hga : findIn K (.ref D) "__getattribute__" = some (some (.builtin "BaseException.__getattribute__"))) (hgt : findIn K (.ref D) "__getattr__" = some none) (hsub : subIn K (.ref D) (.type "BaseException") = some true)
    (hf : findObj K D od "__class__" = some (.bind (.builtin "getset_descriptor.__get__") (.builtin "object.__class__"))) (hm : mroIn K D (.type "object") = some true)
    (X : K.In s.heap) (I : InstAt s.heap x ox D od) (h : Q (some (.ref D)) { s with toks := s.toks + 1 }) : wpAny (model prog w) A (getAttr? (.ref x) "__class__") Q E s := by
  obtain ⟨hp, g, d, t, os⟩ := s
  have L0 := I.type (M := model prog w)
  have L1 := looks_findIn (M := model prog w) X hga
  have L2 := looks_findIn (M := model prog w) X hgt
  have L3 := looks_find (M := model prog w) X I hf
  have sub : Looks (model prog w) hp (isInstance (.ref x) (.type "BaseException")) true := L0.andThen (looks_subIn X hsub)
  have hx0 : (false && onTheHeap (Value.builtin "BaseException.__getattribute__")) = false := rfl
  have hx2 : (Value.builtin "BaseException.__getattribute__" == Value.builtin "object.__getattribute__") = false := by decide +kernel
  have hx1 : (onTheHeap (Value.ref D) && Value.builtin "BaseException.__getattribute__" == Value.builtin "object.__getattribute__") = false := by rw [hx2]; rfl
  unfold getAttr? getAttrBy? getAttrBy
  refine wpAny_bind (wpAny_mkText (wpAny_bind (wpAny_attempt (wpAny_holding (wpAny_bind (L0.at (wpAny_bind (L1.at ?_))))))))
  show wpAny _ _ (if (onTheHeap (Value.ref D) && Value.builtin "BaseException.__getattribute__" == Value.builtin "object.__getattribute__") = true then _ else _) _ _ _
  rw [hx1, if_neg Bool.false_ne_true]
  unfold getAttrByItsOwn hookBefore
  refine wpAny_bind ?_
  rw [if_pos (show onTheHeap (Value.ref D) = true from rfl)]
  refine L2.at ?_
  refine wpAny_bind (wpAny_attempt (wpAny_holding ?_))
  unfold callGetattribute
  rw [hx0, if_neg Bool.false_ne_true]
  unfold boundAndCalled
  rw [PySem.F.excAttr_ValueError.ga.bind (.ref x)]
  refine wpAny_bind (wpAny_pure ?_)
  show wpAny _ _ (call (.builtin "BaseException.__getattribute__") [.ref x, .str "__class__" t]) _ _ _
  refine wpAny_call (codeAny_call_builtin PySem.F.excAttr_ValueError.ga.plain PySem.F.entry_bexc_ga ?_)
  refine @check_slot (model prog w) _ _ ⟨hp, g, d, t + 1, os⟩ "BaseException.__getattribute__" "BaseException" "__getattribute__" (.ref x) [.str "__class__" t] [] _ (by decide +kernel) (by decide +kernel) sub (PySem.F.args_bexc_ga (.ref x) (.str "__class__" t)) ?_
  unfold Builtin.«object.__getattribute__»
  refine wpAny_bind (wpAny_of_eq (a := ((Value.ref x : Value), [Value.str "__class__" t])) (by first | rfl | (simp only [slotArgs]; rfl)) ?_)
  refine wpAny_bind (wpAny_pure (wpAny_bind (L0.at (wpAny_bind (L3.at ?_)))))
  show wpAny _ _ (holding [Value.builtin "object.__class__"] (call (.builtin "getset_descriptor.__get__") [.builtin "object.__class__", .ref x, .ref D]) >>= ret) _ _ _
  refine wpAny_bind (wpAny_holding (wpAny_call (class_get (s := ⟨hp, g, d, t + 1, os⟩) (ox := ox) (od := od) X I hm ?_)))
  refine wpAny_pure ?_
  show wpAny _ _ (handedOut (.ref D)) _ _ _
  rw [handedOut_of (v := .ref D) rfl]
  first
    | exact wpAny_pure (wpAny_pure h)
    | exact wpAny_pure h
    | exact wpAny_pure (wpAny_bind (wpAny_pure (wpAny_pure h)))
theorem zc_find (C : L2.ExcC K D) : ∀ od : Option Obj, findObj K D od "__class__" = some (.bind (.builtin "getset_descriptor.__get__") (.builtin "object.__class__"))
  | none => findObj_dataN (by obtain ⟨cd, hc, _⟩ := any_some C.hd; rw [hc]; rfl) C.ha C.hn C.ht
  | some _ => findObj_data (by obtain ⟨cd, hc, _⟩ := any_some C.hd; rw [hc]; rfl) C.ha C.hn C.ht
theorem zc_kitx (C : L2.ExcC K D) : KitX K (.ref x) (.ref D) (fun h => InstAt h x ox D od) where
  ty := fun _ _ _ I => I.type
  it := fun _ _ X _ => by
    obtain ⟨cdD, hcD, _⟩ := any_some C.hd
    unfold clsIn at hcD
    split at hcD
    · rename_i c' d' cd' sl' ho
      intro A' Q' E' s' k q
      unfold isType loadHead
      exact wpAny_bind (wpAny_loadPart (k _ _ (X _ _ ho)) (wpAny_pure q))
    · cases hcD
  ne := fun h tp dd its n sl X htp => by
    obtain ⟨cdD, hcD, _⟩ := any_some C.hd
    refine Bool.eq_false_iff.mpr fun q => ?_
    have e : D = tp := Value.ref.inj (beq_iff_eq.mp q)
    subst e
    unfold clsIn at hcD
    split at hcD
    · rename_i c' d' cd' sl' ho
      have z := (X _ _ ho).symm.trans htp
      cases z
    · cases hcD
  ca := fun X I k => zc_class C.hg C.hk C.hs (zc_find C od) C.hm X I k
end
end PySem.W
namespace Z
open PySem PySem.Spec L2
/-- isinstance(e, c): tab tells the answer for each class that e may have -/
def rIsX (K : PySem.W.Frag) (a : Addr) (cls : Value) (d : Option Addr) (cv : Value) (tab : List (Addr × Bool)) : List V → Hp → VK → Prop := fun xs H Q => ∃ (D : Addr) (b : Bool) (c : V), cls = .ref D ∧ (D, b) ∈ tab ∧ (∀ dd, d = some dd → ∃ fs, H dd = some (.xd fs)) ∧ xs = [.ref a, c] ∧ (∀ u, RelV c u → u = cv) ∧ Q (.bl b) H
def IsTab (K : PySem.W.Frag) (cv : Value) (tab : List (Addr × Bool)) : Prop := ∀ p ∈ tab, ExcC K p.1 ∧ PySem.W.kitOne K (.ref p.1) cv = some p.2
theorem call_isX {X : Cx} {K : PySem.W.Frag} {a : Addr} {oe : Obj} {cls cv : Value} {d : Option Addr} {pn : List (Addr × Obj)} {tab : List (Addr × Bool)} (h : X.K = K) (hC : IsTab K cv tab) (hz : Zc cls d oe) (hf : ∃ vs, oe.data = .fields vs) : CallR (X.suite a ((a, oe) :: pn)) (.builtin "isinstance") (rIsX K a cls d cv tab) := by
  subst h
  intro pins s σ H xs us Q I r h
  obtain ⟨D, b, c, ec, hm, hd, rfl, hcv, q⟩ := h
  obtain ⟨C, e⟩ := hC _ hm
  cases r with
  | cons rx rr =>
    cases rr with
    | cons rt rr =>
      cases rr
      cases rx
      have ev := hcv _ rt
      subst ev
      obtain ⟨hget, _⟩ := I.pin (a, oe) (List.mem_append.mpr (.inl List.mem_cons_self))
      obtain ⟨vs, hv⟩ := hf
      obtain ⟨od, J⟩ : ∃ od, PySem.W.InstAt s.heap a oe D od := by
        cases d with
        | none =>
          refine ⟨none, hget, by rw [hz.1, ec], by unfold PySem.W.notCls; rw [hv] <;> rfl, ?_⟩
          rw [hz.2]
          trivial
        | some dd =>
          obtain ⟨fs, ed⟩ := hd dd rfl
          have hx : ObjOk X.prog X.w H s.heap dd (.xd fs) := I.hok dd _ ed
          obtain ⟨mA, hns, hr⟩ := hx
          obtain ⟨od, ho, hl⟩ := lookIn_ns hns
          exact ⟨some od, hget, by rw [hz.1, ec], by unfold PySem.W.notCls; rw [hv] <;> rfl, by rw [hz.2]; exact ho⟩
      exact PySem.W.kia_one (PySem.W.zc_kitx C) I.kIn J e (fun z => nomatch z) fun tk => ⟨.bl b, H, I.kept (t' := tk) fun _ _ z => z, rfl, q⟩
/-- the facts -/
def fExcC (cn : Str) : Fct := fun K => decide (PySem.W.findIn K (.ref (He.ga K cn)) "__getattribute__" = some (some (.builtin "BaseException.__getattribute__"))) && (decide (PySem.W.findIn K (.ref (He.ga K cn)) "__getattr__" = some none) && (decide (PySem.W.subIn K (.ref (He.ga K cn)) (.type "BaseException") = some true) && (PySem.W.hasDictIn K (He.ga K cn) &&
  (decide (PySem.W.findIn K (.ref (He.ga K cn)) "__class__" = some (some (.builtin "object.__class__"))) && (decide (PySem.W.specialIn K (.builtin "object.__class__") "__get__" = some (some (.builtin "getset_descriptor.__get__"))) && (decide (PySem.W.takesIn K (.builtin "object.__class__") = some true) && decide (PySem.W.mroIn K (He.ga K cn) (.type "object") = some true)))))))
theorem excC_ok {K : PySem.W.Frag} {cn : Str} (h : fExcC cn K = true) : ExcC K (He.ga K cn) := by
  obtain ⟨a1, h⟩ := He.ba h
  obtain ⟨a2, h⟩ := He.ba h
  obtain ⟨a3, h⟩ := He.ba h
  obtain ⟨a4, h⟩ := He.ba h
  obtain ⟨a5, h⟩ := He.ba h
  obtain ⟨a6, h⟩ := He.ba h
  obtain ⟨a7, a8⟩ := He.ba h
  exact ⟨of_decide_eq_true a1, of_decide_eq_true a2, of_decide_eq_true a3, a4, of_decide_eq_true a5, of_decide_eq_true a6, of_decide_eq_true a7, of_decide_eq_true a8⟩
def fKit (x y : Str) (b : Bool) : Fct := fun K => decide (PySem.W.kitOne K (.ref (He.ga K x)) (.ref (He.ga K y)) = some b)
def fKitT (x : Str) (y : String) (b : Bool) : Fct := fun K => decide (PySem.W.kitOne K (.ref (He.ga K x)) (.type y) = some b)
theorem it_nil {K : PySem.W.Frag} {cv : Value} : IsTab K cv [] := fun _ h => by cases h
theorem it_cons {K : PySem.W.Frag} {x y : Str} {b : Bool} {tab : List (Addr × Bool)} (h1 : fExcC x K = true) (h : fKit x y b K = true) (r : IsTab K (.ref (He.ga K y)) tab) : IsTab K (.ref (He.ga K y)) ((He.ga K x, b) :: tab) := fun p hp => by
  rcases List.mem_cons.mp hp with rfl | hp
  · exact ⟨excC_ok h1, of_decide_eq_true h⟩
  · exact r p hp
theorem it_consT {K : PySem.W.Frag} {x : Str} {y : String} {b : Bool} {tab : List (Addr × Bool)} (h1 : fExcC x K = true) (h : fKitT x y b K = true) (r : IsTab K (.type y) tab) : IsTab K (.type y) ((He.ga K x, b) :: tab) := fun p hp => by
  rcases List.mem_cons.mp hp with rfl | hp
  · exact ⟨excC_ok h1, of_decide_eq_true h⟩
  · exact r p hp
section
variable {J : Jx} {M : Ms} {P : Ent → Ms → Prop} {a : Addr} {cls cv : Value} {od : Option Addr} {xs : List (Str × Ent)} {tab : List (Addr × Bool)}
theorem n_isX {D C : Addr} {b : Bool} (hG : ∀ F, J.G F → XdOk J.K F od xs) (hc : cls = .ref D) (hm : (D, b) ∈ tab) (hcv : cv = .ref C) (p : P (.d (.bool b)) M) : ON J (rIsX J.K a cls od cv tab) [.g a, .g C] M P := fun F Z H vs m x r Q q => by
  cases r with
  | cons r1 rr =>
    cases rr with
    | cons r2 rr =>
      cases rr
      have e1 : _ = V.ref a := r1
      have e2 : _ = V.ref C := r2
      subst e1 e2
      refine ⟨D, b, .ref C, hc, hm, fun dd e => ?_, rfl, fun u ru => ?_, q _ F H (.d (.bool b)) M (Same.refl F) m (Rp.bl b) p⟩
      · subst e
        obtain ⟨vs, eF, _⟩ := hG F (x.g F (Same.refl F))
        exact ⟨vs, m.sub _ _ eF⟩
      · rw [hcv]
        exact ru
theorem n_isXT {D : Addr} {y : String} {b : Bool} (hG : ∀ F, J.G F → XdOk J.K F od xs) (hc : cls = .ref D) (hm : (D, b) ∈ tab) (hcv : cv = .type y) (p : P (.d (.bool b)) M) : ON J (rIsX J.K a cls od cv tab) [.g a, .t y] M P := fun F Z H vs m x r Q q => by
  cases r with
  | cons r1 rr =>
    cases rr with
    | cons r2 rr =>
      cases rr
      have e1 : _ = V.ref a := r1
      have e2 : _ = V.ty y := r2
      subst e1 e2
      refine ⟨D, b, .ty y, hc, hm, fun dd e => ?_, rfl, fun u ru => ?_, q _ F H (.d (.bool b)) M (Same.refl F) m (Rp.bl b) p⟩
      · subst e
        obtain ⟨vs, eF, _⟩ := hG F (x.g F (Same.refl F))
        exact ⟨vs, m.sub _ _ eF⟩
      · rw [hcv]
        exact ru
end
/-! ## the steps' little rules -/
theorem tab_t {c : Value} {tab : ETab} {A B : Prop} (h : A) : ∃ b, (c, b) ∈ ((c, true) :: tab : ETab) ∧ (b = true → A) ∧ (b = false → B) := ⟨true, List.mem_cons_self .., fun _ => h, fun z => by cases z⟩
theorem tab_f {c : Value} {tab : ETab} {A B : Prop} (h : B) : ∃ b, (c, b) ∈ ((c, false) :: tab : ETab) ∧ (b = true → A) ∧ (b = false → B) := ⟨false, List.mem_cons_self .., ⟨fun z => (by cases z), fun _ => h⟩⟩
theorem tab_n {c : Value} {p : Value × Bool} {tab : ETab} {A B : Prop} (h : ∃ b, (c, b) ∈ tab ∧ (b = true → A) ∧ (b = false → B)) : ∃ b, (c, b) ∈ (p :: tab) ∧ (b = true → A) ∧ (b = false → B) := by
  obtain ⟨b, h1, h2⟩ := h
  exact ⟨b, List.mem_cons_of_mem _ h1, h2⟩
theorem fx0_0 {X : Xa} {M : Ms} {k : Value} (h : X k [] M) : Fx0 X M k [] [] := by
  show X k [] (M ++ [])
  rw [List.append_nil]
  exact h
theorem fx0_1 {X : Xa} {M : Ms} {k : Value} {f : Str} {x : PyData} (h : X k [(f, .d x)] M) : Fx0 X M k [(f, .d x)] [] := by
  show X k [(f, .d x)] (M ++ [])
  rw [List.append_nil]
  exact h
theorem fx1_0 {X : Xa} {M : Ms} {n : Nat} {m : Mo} {k : Value} (hm : flatM m = true) (h : X k [] (M.set n (some m))) : Fx1 X M n k [] [some m] := by
  unfold Fx1
  rw [merge1]
  show X k [] (M.set n (some (m.map (Ent.back [n] M.length))) ++ [])
  rw [List.append_nil, flat_map (fun e h => back_isD h) hm]
  exact h
theorem fx1_1 {X : Xa} {M : Ms} {n : Nat} {m : Mo} {k : Value} {f : Str} {x : PyData} (hm : flatM m = true) (h : X k [(f, .d x)] (M.set n (some m))) : Fx1 X M n k [(f, .d x)] [some m] := by
  unfold Fx1
  rw [merge1]
  show X k [(f, .d x)] (M.set n (some (m.map (Ent.back [n] M.length))) ++ [])
  rw [List.append_nil, flat_map (fun e h => back_isD h) hm]
  exact h
theorem finX_N {n : Nat} {X : Xa} {k : Value} {xs : List (Str × Ent)} {M M' : Ms} (h1 : Nat.ble n M.length = true) (h2 : flatMs (M.take n) = true) (h3 : (xs.all fun p => isD p.2) = true) (h4 : M.take n = M') (h : X k xs M') : FinX n X k xs M := finX (Nat.le_of_ble_eq_true h1) h2 h3 (h4 ▸ h)
/-! ## an own class without __init__ -/
def fXo (cn : Str) : Fct := fun K => PySem.W.excIn K (He.ga K cn) PySem.HandSPX.veTail "ValueError.__new__" && (PySem.W.keepIn K (.ref (He.ga K cn)) && (decide (PySem.W.subIn K (.ref (He.ga K cn)) (.type "BaseException") = some true) && decide (PySem.W.typeIn K (.ref (He.ga K cn)) = some (.type "type"))))
theorem pmk_ownZ {X : Cx} {K : PySem.W.Frag} {cn m : Str} {j : Nat} {p p2 pos : Pos} (h : X.K = K) (hx : fXo cn K = true) (hm : X.mg cn = some (.ref (He.ga K cn))) (hg : Gl X cn)
    (hdb : (cn == ("__debug__" : Str)) = false := by decide) : PMk X (.Call (.Name cn p) [.Constant (.str m) j p2] [] pos) (tMk0 (He.ga K cn)) := by
  subst h
  obtain ⟨a1, hx⟩ := He.ba hx
  obtain ⟨a2, hx⟩ := He.ba hx
  obtain ⟨a3, a4⟩ := He.ba hx
  exact pmk_own PySem.F.excBase_ValueError a1 hm a2 (raises_own (of_decide_eq_true a3) (of_decide_eq_true a4)) hg hdb
end Z
namespace Z
open PySem PySem.Spec L2
theorem ex_fmtS {s : Str} {R : Ent → Prop} (h : s.length ≤ 1000000) (p : R (.d (.str s))) : ∃ e, [Ent.d (.str s)] = [e] ∧ FmtE e ∧ R e := ⟨_, rfl, h, p⟩
theorem ex_fmtI {i : Int} {R : Ent → Prop} (h : 0 ≤ i ∧ i < 1000000000) (p : R (.d (.int i))) : ∃ e, [Ent.d (.int i)] = [e] ∧ FmtE e ∧ R e := ⟨_, rfl, h, p⟩
end Z
namespace Z
open PySem PySem.Spec L2
section
variable {X : Cx} {CX : CXT} {K : PySem.W.Frag} {n : Nat} {ks : List Str} {E : L2.St → XK} {mn : Str} {pos apos : Pos} {e o : Expr} {es : List Expr} {kws : List Keyword} {ta : TE} {t tk : TA} {as : List MA}
theorem ke_meA {pl : Sem Bool} (h : X.K = K) (he : PE X o ta) (hy : ∀ y ∈ as, MAok X CX mn n ks y) (hx : ∀ σ, PassesAt CX X σ (E σ)) (ha : PA X (e :: es) t) (hkw : PK X kws tk)
    (hall : (backToKw pos (keywordEach kws X.env)).all (·.1.isSome) = true := by rfl) (hks : (backToKw pos (keywordEach kws X.env)).filterMap (·.1) = ks := by rfl)
    (hst : starEach (e :: es) X.env = (false, eval e X.env) :: starEach es X.env := by rfl) (hpl : ((backTo pos (starEach (e :: es) X.env)).any (·.1) || (backToKw pos (keywordEach kws X.env)).any (·.1.isNone)) = false := by rfl)
    (ht : eval (.Call (.Attribute o mn apos) (e :: es) kws pos) X.env = (do
      let ov ← eval o X.env
      standAt apos.atName
      let (f, first) ← holding [ov] (getMethod ov mn pl)
      callWith pos f first (backTo pos (starEach (e :: es) X.env)) (backToKw pos (keywordEach kws X.env))) := by rfl) :
    PE X (.Call (.Attribute o mn apos) (e :: es) kws pos) (tMeA K mn n ks.length as E ta t tk) := h ▸ pe_meA (pl := pl) he hy hx ha hkw hall hks hst hpl ht
theorem ke_meA0 {pl : Sem Bool} (h : X.K = K) (he : PE X o ta) (hy : ∀ y ∈ as, MAok X CX mn 0 ks y) (hx : ∀ σ, PassesAt CX X σ (E σ)) (hkw : PK X kws tk)
    (hall : (backToKw pos (keywordEach kws X.env)).all (·.1.isSome) = true := by rfl) (hks : (backToKw pos (keywordEach kws X.env)).filterMap (·.1) = ks := by rfl)
    (hpl : ((backTo pos (starEach [] X.env)).any (·.1) || (backToKw pos (keywordEach kws X.env)).any (·.1.isNone)) = false := by rfl)
    (ht : eval (.Call (.Attribute o mn apos) [] kws pos) X.env = (do
      let ov ← eval o X.env
      standAt apos.atName
      let (f, first) ← holding [ov] (getMethod ov mn pl)
      callWith pos f first (backTo pos (starEach [] X.env)) (backToKw pos (keywordEach kws X.env))) := by rfl) :
    PE X (.Call (.Attribute o mn apos) [] kws pos) (tMeA K mn 0 ks.length as E ta tNil tk) := h ▸ pe_meA0 (pl := pl) he hy hx hkw hall hks hpl ht
end
end Z
namespace Z
open PySem PySem.Spec L2
section
variable {J : Jx} {Γ : Ga} {M : Ms} {P : Ent → Ms → Prop} {a : Addr} {cls cv : Value} {od : Option Addr} {xs : List (Str × Ent)} {tab : List (Addr × Bool)} {G0 : Wd → Prop}
theorem w_xfG {C : Addr} {f : Str} {te : TE} (hG : J.G = fun F => G0 F ∧ XdOk J.K F od xs) (hc : cls = .ref C) (h : Wx J te Γ M fun x M1 => x = .g a ∧ ∃ e, xs.lookup f = some e ∧ P e M1) : Wx J (tXf a cls od C f te) Γ M P := w_xf (fun F h => by rw [hG] at h; exact h.2) hc h
theorem n_isXG {D C : Addr} {b : Bool} (hG : J.G = fun F => G0 F ∧ XdOk J.K F od xs) (hc : cls = .ref D) (hm : (D, b) ∈ tab) (hcv : cv = .ref C) (p : P (.d (.bool b)) M) : ON J (rIsX J.K a cls od cv tab) [.g a, .g C] M P := n_isX (fun F h => by rw [hG] at h; exact h.2) hc hm hcv p
theorem n_isXTG {D : Addr} {y : String} {b : Bool} (hG : J.G = fun F => G0 F ∧ XdOk J.K F od xs) (hc : cls = .ref D) (hm : (D, b) ∈ tab) (hcv : cv = .type y) (p : P (.d (.bool b)) M) : ON J (rIsX J.K a cls od cv tab) [.g a, .t y] M P := n_isXT (fun F h => by rw [hG] at h; exact h.2) hc hm hcv p
theorem tabm_0 {D D' : Addr} {b b' : Bool} {tab : List (Addr × Bool)} (h1 : D = D') (h2 : b = b') : (D, b) ∈ (D', b') :: tab := by rw [h1, h2]; exact List.mem_cons_self ..
theorem ex_look {xs : List (Str × Ent)} {f : Str} {e : Ent} {a : Addr} {R : Ent → Prop} (hl : xs.lookup f = some e) (p : R e) : Ent.g a = .g a ∧ ∃ e, xs.lookup f = some e ∧ R e := ⟨rfl, e, hl, p⟩
end
end Z
set_option Elab.async false
set_option linter.all false
set_option maxRecDepth 100000
set_option maxHeartbeats 4000000
namespace Z
open PySem PySem.Spec L2
/-! ## properties -/
/-- the class cn has f as a property, written in the class dn -/
def fProp (cn dn f : Str) : Fct := fun K => decide (PySem.W.findIn K (.ref (He.ga K cn)) f = some (some (.ref (He.fAd K (dn, some f))))) && (decide (PySem.W.specialIn K (.ref (He.fAd K (dn, some f))) "__get__" = some (some (.builtin "property.__get__"))) && (decide (PySem.W.takesIn K (.ref (He.fAd K (dn, some f))) = some true) && (match PySem.W.recIn K (He.fAd K (dn, some f)) "property" with
  | some (.ref g :: _) => decide (g = recG K (He.fAd K (dn, some f)))
  | _ => false)))
theorem prop_ok {K : PySem.W.Frag} {cn dn f : Str} (h : fProp cn dn f K = true) : PropOf K (He.ga K cn) f (He.fAd K (dn, some f)) (recG K (He.fAd K (dn, some f))) := by
  obtain ⟨a1, h⟩ := He.ba h
  obtain ⟨a2, h⟩ := He.ba h
  obtain ⟨a3, a4⟩ := He.ba h
  refine ⟨of_decide_eq_true a1, of_decide_eq_true a2, of_decide_eq_true a3, ?_⟩
  split at a4
  · rename_i g rest e
    exact ⟨rest, by rw [e, of_decide_eq_true a4]⟩
  · cases a4
def tPrA (K : PySem.W.Frag) (as : List MA) (ta : TE) : TE := fun σ H Q => ta σ H fun x H1 => ∃ a C dx fs, x = .ref a ∧ H1 a = some (.ins C dx fs) ∧ ∃ y ∈ as, y.C = C ∧ spA K y.c [x] H1 Q E0
def PRok (X : Cx) (f : Str) (y : MA) : Prop := ∃ (k : Nat) (p g : Addr) (fd : FuncData) (ps : List Str), Cls X.K y.C ∧ PropOf X.K y.C f p g ∧ FnOk X.prog X.w X.K X.mg X.base CX0 k g fd ps (spA X.K y.c) ∧ Room (k + 1) X.A ∧ Binds X.K fd ps []
section
variable {X : Cx} {K : PySem.W.Frag} {f : Str} {as : List MA} {e : Expr} {pos : Pos} {ta : TE}
theorem ke_prA (h : X.K = K) (he : PE X e ta) (hy : ∀ y ∈ as, PRok X f y) (hb : attributeBase e f X.env (eval e X.env) = eval e X.env := by rfl) : PE X (.Attribute e f pos) (tPrA K as ta) := by
  subst h
  refine ⟨fun pins s σ H Q I h => ?_⟩
  refine attr_of hb (thn (he.run pins s σ H _ I h) fun u s1 ⟨x, H1, I1, rx, a, C, dx, fs, ex, ea, y, hm, ec, q⟩ => ?_)
  subst ex
  obtain rfl : u = Value.ref a := rx
  obtain ⟨k, p, g, fd, ps, c, hp, F, hr, b⟩ := hy y hm
  rw [ec] at c hp
  exact getprop_ok I1 ea c hp F hr b .nil (fun _ _ _ _ _ _ _ z => z.elim) q
theorem pr_nil : ∀ y ∈ ([] : List MA), PRok X f y := fun _ h => by cases h
theorem pr_cons {y : MA} {as : List MA} (h1 : PRok X f y) (h : ∀ y ∈ as, PRok X f y) : ∀ z ∈ y :: as, PRok X f z := fun z hz => by
  rcases List.mem_cons.mp hz with rfl | hz
  · exact h1
  · exact h z hz
theorem pro_of {cn dn x qual : Str} {st : Stmt} {k j : Nat} {ps : List Str} {c : ASp} (h : X.K = K) (hc : (He.Fa.cls cn).ok K = true) (hp : fProp cn dn f K = true) (C : Cr X.prog X.w K X.mg X.base CX0 (dn, some f) x qual st [] [] k ps c) (hr : Room j X.A) (hk : k + 1 ≤ j)
    (hb : ∀ (cl : List (Str × Addr)) (kV doc pm : Value) (an : Option Addr) (cdv ct : Value) (us : List Value), us.length = ps.length → bindArgs (PySem.W.fnX x qual (defArgs st) (defBody st) (defScope st) cl .none kV doc pm an cdv ct) ⟨us, []⟩ = pure (ps.zip us)) : PRok X f ⟨He.ga K cn, c, [], [], []⟩ := by
  subst h
  obtain ⟨fd, F, B, kp⟩ := C.ex
  exact ⟨k, _, _, fd, ps, He.cls_ok hc, prop_ok hp, F, hr.mono hk, bB B hb⟩
end
theorem w_prA {J : Jx} {Γ : Ga} {M : Ms} {P : Ent → Ms → Prop} {as : List MA} {ta : TE} (h : Wx J ta Γ M fun x M1 => ∃ C fs, OV M1 x C fs ∧ ∃ y ∈ as, y.C = C ∧ Fr y.c [x] M1 P X0) : Wx J (tPrA J.K as ta) Γ M P := fun F Z σ H en mm x Q q =>
  h F Z σ H en mm x _ fun v F1 H1 e M1 s1 m1 r1 ⟨C, fs, ho, y, hy, ec, h1⟩ => by
    obtain ⟨a, dx, us, rfl, ea, rs⟩ := ov_ok m1 r1 ho
    exact ⟨a, C, dx, us, rfl, ea, y, hy, ec, fr_sp (J := J) (E := E0) h1 (.cons r1 .nil) m1 (fun _ _ _ _ _ _ _ _ z _ => z.elim) fun v F' H' e M' s' m' r p => q v F' H' e M' (s1.trans s') m' r p⟩
end Z
namespace Z
open PySem PySem.Spec L2
/-- the call of a def that might let something out, but here lets nothing out -/
theorem passC {X : Cx} : ∀ σ : L2.St, PassesAt (L2.CX X.prog X.w) X σ E0 := fun _ _ _ _ _ _ _ c => by
  obtain ⟨_, _, _, _, _, _, _, _, _, _, _, _, z⟩ := c
  exact z.elim
end Z
namespace Z
open PySem PySem.Spec L2
/-! ## a list that no longer changes becomes data -/
def tStop (t : TS) : TS := t
theorem ps_stop {X : Cx} {s : Stmt} {t : TS} (h : PS X s t) : PS X s (tStop t) := h
theorem s_stop {J : Jx} {t : TS} {D : Nd} {Γ : Ga} {M : Ms} (h : Sx J t D Γ M) : Sx J (tStop t) D Γ M := h
def frzE (n : Nat) (ds : List PyData) : Option Ent → Option Ent
  | some (.r k) => if k = n then some (.d (.list ds)) else some (.r k)
  | o => o
theorem env_frz {K : PySem.W.Frag} {F : Wd} {n : Nat} {ds : List PyData} {a : Addr} (ea : F.ι[n]? = some a) (r : Rp K F (.ref a) (.list ds)) : ∀ {σ : L2.St} {Γ : Ga}, EnvOk K F σ Γ → EnvOk K F σ (Γ.map (frzE n ds))
  | _, _, .nil => .nil
  | _, none :: _, .cons q t => .cons q (env_frz ea r t)
  | _, some (.d _) :: _, .cons q t => .cons q (env_frz ea r t)
  | _, some (.w _) :: _, .cons q t => .cons q (env_frz ea r t)
  | _, some (.t _) :: _, .cons q t => .cons q (env_frz ea r t)
  | _, some (.g _) :: _, .cons q t => .cons q (env_frz ea r t)
  | _, some (.r k) :: _, .cons q t => .cons (by
      show RO K F _ (if k = n then some (Ent.d (PyData.list ds)) else some (Ent.r k))
      by_cases hk : k = n
      · rw [if_pos hk]
        obtain ⟨v, e, b, eb, ev⟩ := q
        rw [hk, ea] at eb
        cases eb
        exact ⟨v, e, by rw [ev]; exact r⟩
      · rw [if_neg hk]
        exact q) (env_frz ea r t)
theorem s_frz {J : Jx} {t : TS} {D : Nd} {Γ : Ga} {M : Ms} {n : Nat} {ds : List PyData} (hM : M[n]? = some (some (.lst ds))) (h : Sx J t D (Γ.map (frzE n ds)) (M.set n none)) : Sx J (tStop t) D Γ M := fun F Z σ H C en m x d => by
  obtain ⟨a, vs, ea, nF, eH, rs⟩ := m.lst hM
  obtain ⟨s, m2⟩ := m.freeze hM ea eH
  have r : Rp J.K ⟨upd F.F a (.lst vs), F.ι⟩ (.ref a) (.list ds) := Rp.lst upd_same (RpAll.mono s rs)
  exact h ⟨upd F.F a (.lst vs), F.ι⟩ Z σ H C (env_frz (F := ⟨upd F.F a (.lst vs), F.ι⟩) ea r (en.mono s)) m2 (x.mono s) (d.mono s)
end Z
set_option Elab.async false
set_option linter.all false
set_option maxRecDepth 100000
set_option maxHeartbeats 4000000
namespace Z
open PySem PySem.Spec L2
/-! ## == by the own __eq__ of an instance's class -/
def rOwnE (K : PySem.W.Frag) (as : List MA) : R2 := fun x y H Q => ∃ a C dx fs b C' dy gs, x = .ref a ∧ y = .ref b ∧ H a = some (.ins C dx fs) ∧ H b = some (.ins C' dy gs) ∧ PySem.W.notFirst K C (.ref C') = true ∧ ∃ m ∈ as, m.C = C ∧ spA K m.c (perm m.ix ([x, y] ++ (m.cvs ++ []))) H Q E0
theorem op_ownE {X : Cx} {as : List MA} (hy : ∀ y ∈ as, MAok X CX0 "__eq__" 1 [] y) : OpR X (compareOp .Eq) (rOwnE X.K as) := by
  intro pins s σ H x y v u Q I rx ry h
  obtain ⟨a, C, dx, fs, b, C', dy, gs, rfl, rfl, ea, eb, hn, m, hm, ec, q⟩ := h
  obtain rfl : v = Value.ref a := rx
  obtain rfl : u = Value.ref b := ry
  obtain ⟨k, f, fd, ps, c, mt, F, hr, cs, hb⟩ := hy m hm
  rw [ec] at c mt
  obtain ⟨mA, J, _⟩ := ins_get I.hok ea
  obtain ⟨mB, J', _⟩ := ins_get I.hok eb
  obtain ⟨od, J, _⟩ := J.look
  obtain ⟨od', J', _⟩ := J'.look
  obtain ⟨mm, hF⟩ := I.fr
  show wpAny _ _ (richCompare .Eq (.ref a) (.ref b)) _ _ _
  refine PySem.W.cmp_K (op := .Eq) (tb := .ref C') hr.units0 hF I.ok.mod.kin J J'.type hn mt.at_ mt.fn ?_
  refine wpAny_mono (run_fnS (us := [.ref a, .ref b]) (vs := [.ref a, .ref b]) (ws := []) (zs := []) F hr hb (passN σ) I (.cons rfl (.cons rfl .nil)) .nil rfl rfl q) (fun w s' z => ?_) fun _ _ x => x
  obtain ⟨z', H', I', rz, qz⟩ := z
  exact SlX.cmpback rz ⟨z', H', I', rz, qz⟩
theorem kOwnE {X : Cx} {K : PySem.W.Frag} {as : List MA} (h : X.K = K) (hy : ∀ y ∈ as, MAok X CX0 "__eq__" 1 [] y) : OpR X (compareOp .Eq) (rOwnE K as) := h ▸ op_ownE hy
section
variable {J : Jx} {M : Ms} {P : Ent → Ms → Prop} {x y : Ent}
theorem o_ownE {C C' : Addr} {fs gs : List (Str × Ent)} {as : List MA} {m : MA} (hx : OV M x C fs) (hy : OV M y C' gs) (hn : PySem.W.notFirst J.K C (.ref C') = true) (hm : m ∈ as) (ec : m.C = C) (hv : CVs m.cvs m.ces) (h : Fr m.c (perm m.ix ([x, y] ++ (m.ces ++ []))) M P X0) : O2 J (rOwnE J.K as) x y M P := fun F Z H v u mm xr r1 r2 Q q => by
  obtain ⟨a, dx, us, rfl, ea, rs⟩ := ov_ok mm r1 hx
  obtain ⟨b, dy, ws, rfl, eb, rt⟩ := ov_ok mm r2 hy
  exact ⟨a, C, dx, us, b, C', dy, ws, rfl, rfl, ea, eb, hn, m, hm, ec, fr_sp (J := J) (E := E0) h (perm_paired (paired_append (.cons r1 (.cons r2 .nil)) (paired_append (hv _ F) .nil)) m.ix) mm (fun _ _ _ _ _ _ _ _ z _ => z.elim) q⟩
theorem notFirst_same {K : PySem.W.Frag} {C : Addr} : PySem.W.notFirst K C (.ref C) = true := by simp [PySem.W.notFirst]
end
/-! ## a constant of the class -/
section
variable {X : Cx} {K : PySem.W.Frag} {e : Expr} {f : Str} {pos : Pos} {ta : TE} {Ds : List (Addr × V)}
def fConS (cn f s : Str) : Fct := fun K => match PySem.W.findIn K (.ref (He.ga K cn)) f with
  | some (some u) => (match u with
    | .str z _ => decide (z = s)
    | _ => false) && (decide (PySem.W.specialIn K u "__get__" = some none) && !PySem.W.copiedNames.contains f)
  | _ => false
theorem conS_ok {cn f s : Str} (h : fConS cn f s K = true) : ∃ u, Con K (He.ga K cn) f (.str s) u := by
  unfold fConS at h
  split at h
  · rename_i u e
    obtain ⟨h1, h2⟩ := He.ba h
    obtain ⟨h3, h4⟩ := He.ba h2
    refine ⟨u, e, ?_, of_decide_eq_true h3, by simpa using h4⟩
    split at h1
    · rename_i z t
      exact ⟨t, by rw [of_decide_eq_true h1]⟩
    · cases h1
  · cases h
theorem ke_con (h : X.K = K) (he : PE X e ta) (hc : ∀ p ∈ Ds, ∃ u, Cls K p.1 ∧ Con K p.1 f p.2 u) (hb : attributeBase e f X.env (eval e X.env) = eval e X.env := by rfl) : PE X (.Attribute e f pos) (tConS f Ds ta) := pe_conS he (h ▸ hc) hb
theorem con_nil : ∀ p ∈ ([] : List (Addr × V)), ∃ u, Cls K p.1 ∧ Con K p.1 f p.2 u := fun _ h => by cases h
theorem con_cons {cn s : Str} (h1 : (He.Fa.cls cn).ok K = true) (h2 : fConS cn f s K = true) (h : ∀ p ∈ Ds, ∃ u, Cls K p.1 ∧ Con K p.1 f p.2 u) : ∀ p ∈ ((He.ga K cn, V.str s) :: Ds), ∃ u, Cls K p.1 ∧ Con K p.1 f p.2 u := fun p hp => by
  rcases List.mem_cons.mp hp with rfl | hp
  · obtain ⟨u, q⟩ := conS_ok h2
    exact ⟨u, He.cls_ok h1, q⟩
  · exact h p hp
variable {J : Jx} {Γ : Ga} {M : Ms} {P : Ent → Ms → Prop}
theorem w_con (h : Wx J ta Γ M fun x M1 => ∃ C fs v d, OV M1 x C fs ∧ (C, v) ∈ Ds ∧ fs.lookup f = none ∧ (∀ F, RE J.K F v d) ∧ P d M1) : Wx J (tConS f Ds ta) Γ M P := fun F Z σ H en m x Q q =>
  h F Z σ H en m x _ fun v F1 H1 e M1 s1 m1 r1 ⟨C, fs, w, d, ho, hc, hl, hd, p⟩ => by
    obtain ⟨a, dx, vs, rfl, ea, rs⟩ := ov_ok m1 r1 ho
    exact ⟨a, C, dx, vs, w, rfl, ea, hc, look_none (R := RE J.K F1) rs hl, q w F1 H1 _ M1 s1 m1 (hd F1) p⟩
end
/-! ## displays of dicts -/
def WPs (J : Jx) (trs : List (TE × TE)) (Γ : Ga) (M : Ms) (P : List (Key × PyData) → Ms → Prop) : Prop := ∀ F Z σ H, EnvOk J.K F σ Γ → Mem J.K F M Z H → XR J F Z → ∀ Q : List (V × V) → Hp → Prop,
  (∀ F' H' kvs kds M', Same F F' → Mem J.K F' M' Z H' → KVs J.K F' kvs kds → P kds M' → Q (kvs.map fun kv => (kV kv.1, kv.2)) H') → tPairs trs σ H Q
section
variable {J : Jx} {Γ : Ga} {M : Ms} {P : Ent → Ms → Prop} {B : List (Key × PyData) → Ms → Prop} {tk tv : TE} {trs : List (TE × TE)}
theorem kvs_mono {K : PySem.W.Frag} {F F' : Wd} (s : Same F F') {kvs : List (Key × V)} {kds : List (Key × PyData)} (h : KVs K F kvs kds) : KVs K F' kvs kds := Paired.mapP h fun _ _ q => ⟨q.1, Rp.mono s q.2⟩
theorem wp_nil (p : B [] M) : WPs J [] Γ M B := fun F Z σ H en m x Q q => q F H [] [] M (Same.refl F) m .nil p
theorem wp_cons (h : Wx J tk Γ M fun x M1 => ∃ k, x = .d (kE k) ∧ Wx J tv Γ M1 fun y M2 => ∃ d, y = .d d ∧ WPs J trs Γ M2 fun kds M3 => B ((k, d) :: kds) M3) : WPs J ((tk, tv) :: trs) Γ M B := fun F Z σ H en m x Q q =>
  h F Z σ H en m x _ fun v F1 H1 e M1 s1 m1 r1 ⟨k, ek, h1⟩ => h1 F1 Z σ H1 (en.mono s1) m1 (x.mono s1) _ fun u F2 H2 e2 M2 s2 m2 r2 ⟨d, ed, h2⟩ => by
    subst ek ed
    have e1 := rp_kE r1
    subst e1
    exact h2 F2 Z σ H2 (en.mono (s1.trans s2)) m2 (x.mono (s1.trans s2)) _ fun F3 H3 kvs kds M3 s3 m3 r3 p => q F3 H3 ((k, u) :: kvs) ((k, d) :: kds) M3 ((s1.trans s2).trans s3) m3 (.cons ⟨rfl, Rp.mono s3 r2⟩ r3) p
def mergeP (kds : List (Key × PyData)) : List (Key × PyData) := kds.foldl (fun acc kv => kPut acc kv.1 kv.2) []
theorem kvs_merge {K : PySem.W.Frag} {F : Wd} {kvs : List (Key × V)} {kds : List (Key × PyData)} (h : KVs K F kvs kds) : ∀ {as : List (Key × V)} {bs : List (Key × PyData)}, KVs K F as bs → KVs K F (mergeK as kvs) (kds.foldl (fun acc kv => kPut acc kv.1 kv.2) bs) := by
  induction h with
  | nil => exact fun q => q
  | @cons p q ps qs h t ih =>
    intro as bs r
    obtain ⟨a, v⟩ := p
    obtain ⟨b, d⟩ := q
    obtain ⟨h1, h2⟩ := h
    have h1' : a = b := h1
    subst h1'
    exact ih (kvs_put r h2)
theorem merge_id : ∀ {kds : List (Key × PyData)}, (kds.map (·.1)).Nodup → mergeP kds = kds := by
  have g : ∀ (kds acc : List (Key × PyData)), ((acc ++ kds).map (·.1)).Nodup → kds.foldl (fun acc kv => kPut acc kv.1 kv.2) acc = acc ++ kds := by
    intro kds
    induction kds with
    | nil => intro acc _; simp
    | cons p r ih =>
      intro acc nd
      have hp : kPut acc p.1 p.2 = acc ++ [p] := by
        unfold kPut
        rw [if_neg]
        intro h
        rw [List.any_eq_true] at h
        obtain ⟨q, hq, e⟩ := h
        rw [List.map_append, List.nodup_append] at nd
        exact nd.2.2 q.1 (List.mem_map.mpr ⟨q, hq, rfl⟩) p.1 (List.mem_map.mpr ⟨p, List.mem_cons_self .., rfl⟩) (of_decide_eq_true e)
      rw [List.foldl_cons, hp, ih (acc ++ [p]) (by rw [List.append_assoc]; exact nd), List.append_assoc]
      rfl
  intro kds nd
  exact g kds [] (by simpa using nd)
theorem w_disp (h : WPs J trs Γ (M ++ [some (.dic [])]) fun kds M' => M'[M.length]? = some (some (.dic [])) ∧ Nat.ble kds.length 15 = true ∧ P (.r M.length) (M'.set M.length (some (.dic (mergeP kds))))) : Wx J (tDisp trs) Γ M P := fun F Z σ H en m x Q q => fun p hp => by
  obtain ⟨s1, m1, r1⟩ := m.newM (o := .dK []) (m := .dic []) hp ⟨[], rfl, .nil⟩
  refine h _ Z σ _ (en.mono s1) m1 (x.mono s1) _ fun F' H' kvs kds M' s' m' r' ⟨hm, hl, pp⟩ => ?_
  obtain ⟨a, vs, h0, _, ea, rs⟩ := m'.dic hm
  have ex : F'.ι[M.length]? = some p := s'.at_ (snoc_at m.len)
  rw [ex] at h0
  cases h0
  cases rs
  refine ⟨ea, kvs, rfl, by rw [Paired.length r']; exact Nat.le_of_ble_eq_true hl, ?_⟩
  exact q (.ref p) F' _ (.r M.length) _ (s1.trans s') (m'.write (o := .dK (mergeK [] kvs)) (m := .dic (mergeP kds)) hm ex ⟨_, rfl, kvs_merge r' .nil⟩) ⟨p, ex, rfl⟩ pp
end
/-! ## == of dicts of plain values -/
def flatD : PyData → Bool
  | .none => true
  | .bool _ => true
  | .int _ => true
  | .str _ => true
  | _ => false
def eqD : PyData → PyData → Bool
  | .none, .none => true
  | .bool a, .bool b => a == b
  | .bool a, .int b => (if a then 1 else 0) == b
  | .int a, .bool b => a == (if b then 1 else 0)
  | .int a, .int b => a == b
  | .str a, .str b => a == b
  | _, _ => false
theorem rp_flat {K : PySem.W.Frag} {F : Wd} {v : V} {d : PyData} (r : Rp K F v d) (h : flatD d = true) : flatV v = true := by
  cases r <;> first | rfl | cases h
theorem rp_eqD {K : PySem.W.Frag} {F F' : Wd} {v w : V} {d e : PyData} (r : Rp K F v d) (r' : Rp K F' w e) (h : flatD d = true) (h' : flatD e = true) : eqV v w = eqD d e := by
  cases r <;> first | (cases h; done) | skip
  all_goals (cases r' <;> first | (cases h'; done) | rfl)
def eqDs (bs : List (Key × PyData)) : List (Key × PyData) → Bool
  | [] => true
  | (k, d) :: r => match kGet bs k with
    | none => false
    | some e => eqD d e && eqDs bs r
def rEqDF (K : PySem.W.Frag) : R2 := fun x y H Q => ∃ a b ks ls, x = .ref a ∧ y = .ref b ∧ H a = some (.dK ks) ∧ H b = some (.dK ls) ∧ ∃ (F : Wd) (as bs : List (Key × PyData)), KVs K F ks as ∧ KVs K F ls bs ∧ (as.all fun p => flatD p.2) = true ∧ (bs.all fun p => flatD p.2) = true ∧ Q (.bl (as.length == bs.length && eqDs bs as)) H
theorem hits_F {K : PySem.W.Frag} {F : Wd} {A : Around} {s : Shared} {kvs : List (Key × V)} {bs : List (Key × PyData)} {vb : List (Key × Value)} (rb : KV kvs vb) (kb : KVs K F kvs bs) (fb : (bs.all fun p => flatD p.2) = true) : ∀ {ks : List (Key × V)} {as : List (Key × PyData)} {va : List (Key × Value)}, KV ks va → KVs K F ks as → (as.all fun p => flatD p.2) = true → PySem.W.KeqHits A s vb va (eqDs bs as)
  | [], _, _, ra, ka, _ => by
    cases ka
    cases ra
    exact .nil
  | (k, v) :: ks, _, _, ra, ka, fa => by
    cases ka with
    | cons h t =>
      rename_i q qs
      obtain ⟨k2, d⟩ := q
      obtain ⟨h1, h2⟩ := h
      have h1' : k = k2 := h1
      subst h1'
      cases ra with
      | cons g u =>
        rename_i z zs
        obtain ⟨k3, w⟩ := z
        obtain ⟨g1, g2⟩ := g
        have g1' : k = k3 := g1
        subst g1'
        have fa' : (flatD d && qs.all fun p => flatD p.2) = true := fa
        rw [Bool.and_eq_true] at fa'
        have ih := hits_F (A := A) (s := s) rb kb fb u t fa'.2
        show PySem.W.KeqHits A s vb ((k, w) :: zs) (match kGet bs k with
          | none => false
          | some e => eqD d e && eqDs bs qs)
        have rv := rb.val k
        rcases val_get (k := k) kb with ⟨e1, e2⟩ | ⟨e, y, e1, e2, e3⟩
        · rw [e2] at rv
          rw [e1]
          exact .miss (RelO.none_of rv)
        · rw [e2] at rv
          obtain ⟨y', hy, ry⟩ := rv.some_of
          rw [e1]
          have fe : flatD e = true := by
            have := List.all_eq_true.mp fb
            unfold kGet at e1
            rw [Option.map_eq_some_iff] at e1
            obtain ⟨p, hp, rfl⟩ := e1
            exact this p (List.mem_of_find?_eq_some hp)
          have := eqAt_V (A := A) (s := s) g2 ry (rp_flat h2 fa'.1) (rp_flat e3 fe)
          rw [rp_eqD h2 e3 fa'.1 fe] at this
          exact .hit hy this ih
theorem op_eqDF {X : Cx} (hu : X.A.units < cLine) : OpR X (compareOp .Eq) (rEqDF X.K) := by
  intro pins s σ H x y v u Q I rx ry h
  obtain ⟨a, b, ks, ls, rfl, rfl, ea, eb, F, as, bs, ka, kb, fa, fb, q⟩ := h
  obtain rfl : v = Value.ref a := rx
  obtain rfl : u = Value.ref b := ry
  obtain ⟨_, ya, va, ra, da⟩ := (show ObjOk X.prog X.w H s.heap a (.dK ks) from I.hok a _ ea)
  obtain ⟨_, yb, vb, rb, db⟩ := (show ObjOk X.prog X.w H s.heap b (.dK ls) from I.hok b _ eb)
  have l1 : va.length = as.length := ra.length.symm.trans (Paired.length ka)
  have l2 : vb.length = bs.length := rb.length.symm.trans (Paired.length kb)
  exact PySem.W.keq_eq (knd := mixKind X.prog X.w) (r := eqDs bs as) ya yb da db hu (fun _ => hits_F rb kb fb ra ka fa) (fin_bl I q (by rw [l1, l2]))
theorem kEqDF {X : Cx} {K : PySem.W.Frag} (h : X.K = K) (hu : X.A.units + 64 < cLine) : OpR X (compareOp .Eq) (rEqDF K) := h ▸ op_eqDF (by omega)
theorem o_eqDF {J : Jx} {M : Ms} {P : Ent → Ms → Prop} {n m : Nat} {as bs : List (Key × PyData)} (ha : M[n]? = some (some (.dic as))) (hb : M[m]? = some (some (.dic bs))) (fa : (as.all fun p => flatD p.2) = true) (fb : (bs.all fun p => flatD p.2) = true) (p : P (.d (.bool (as.length == bs.length && eqDs bs as))) M) : O2 J (rEqDF J.K) (.r n) (.r m) M P := fun F Z H v u mm xr r1 r2 Q q => by
  obtain ⟨a, ea, rfl⟩ := r1
  obtain ⟨b, eb, rfl⟩ := r2
  obtain ⟨a', vs, h0, _, h1, h2⟩ := mm.dic ha
  rw [ea] at h0
  cases h0
  obtain ⟨b', ws, g0, _, g1, g2⟩ := mm.dic hb
  rw [eb] at g0
  cases g0
  exact ⟨a, b, vs, ws, rfl, rfl, h1, g1, F, as, bs, h2, g2, fa, fb, q _ F H (.d (.bool _)) M (Same.refl F) mm (Rp.bl _) p⟩
/-! ## isinstance(x, C): x an instance, C an own class -/
def rIsO (D : Addr) (tab : List (Addr × Bool)) : List V → Hp → VK → Prop := fun xs H Q => ∃ a C dx fs b, xs = [.ref a, .ref D] ∧ H a = some (.ins C dx fs) ∧ (C, b) ∈ tab ∧ Q (.bl b) H
def IoTab (K : PySem.W.Frag) (D : Addr) (tab : List (Addr × Bool)) : Prop := ∀ p ∈ tab, clsB K p.1 = true ∧ PySem.W.kitOne K (.ref p.1) (.ref D) = some p.2
theorem call_isO {X : Cx} {K : PySem.W.Frag} {D : Addr} {tab : List (Addr × Bool)} (h : X.K = K) (ht : IoTab K D tab) : CallR X (.builtin "isinstance") (rIsO D tab) := by
  subst h
  intro pins s σ H xs us Q I r h
  obtain ⟨a, C, dx, fs, b, rfl, ea, hm, q⟩ := h
  obtain ⟨c, k⟩ := ht _ hm
  obtain ⟨c1, c2, c3, c4, c5⟩ := clsB_ok c
  exact call_isi pins s σ H _ us Q I r ⟨_, _, _, _, b, rfl, .own D, .base (.ins ea c1 c2 c3 c4 c5), k, q⟩
def fIo (x y : Str) (b : Bool) : Fct := fun K => clsB K (He.ga K x) && decide (PySem.W.kitOne K (.ref (He.ga K x)) (.ref (He.ga K y)) = some b)
theorem io_nil {K : PySem.W.Frag} {D : Addr} : IoTab K D [] := fun _ h => by cases h
theorem io_cons {K : PySem.W.Frag} {x y : Str} {b : Bool} {tab : List (Addr × Bool)} (h : fIo x y b K = true) (r : IoTab K (He.ga K y) tab) : IoTab K (He.ga K y) ((He.ga K x, b) :: tab) := fun p hp => by
  rcases List.mem_cons.mp hp with rfl | hp
  · obtain ⟨h1, h2⟩ := He.ba h
    exact ⟨h1, of_decide_eq_true h2⟩
  · exact r p hp
section
variable {J : Jx} {M : Ms} {P : Ent → Ms → Prop}
theorem n_isO {e : Ent} {C D : Addr} {fs : List (Str × Ent)} {b : Bool} {tab : List (Addr × Bool)} (ho : OV M e C fs) (hm : (C, b) ∈ tab) (p : P (.d (.bool b)) M) : ON J (rIsO D tab) [e, .g D] M P := fun F Z H vs m xr r1 Q q => by
  cases r1 with
  | cons r0 rt =>
    cases rt with
    | cons r2 rt =>
      cases rt
      have e2 : _ = V.ref D := r2
      subst e2
      obtain ⟨a, dx, us, rfl, ea, _⟩ := ov_ok m r0 ho
      exact ⟨a, C, dx, us, b, rfl, ea, hm, q _ F H (.d (.bool b)) M (Same.refl F) m (Rp.bl b) p⟩
/-- isinstance(xs, list), whatever the items are -/
theorem n_isiL {ds : List PyData} (p : P (.d (.bool true)) M) : ON J (rIsiU J.K) [.d (.list ds), .t "list"] M P := n_l fun F Z H vs m xr r1 Q q => by
  cases r1 with
  | cons r0 rt =>
    cases rt with
    | cons r2 rt =>
      cases rt
      cases r2
      cases r0 with
      | lst ea rs => exact ⟨_, _, _, _, true, rfl, .ty "list", .base (.lst (m.sub _ _ ea)), kit_ty (by decide +kernel), q _ F H (.d (.bool true)) M (Same.refl F) m (Rp.bl true) p⟩
end
/-! ## list * int -/
def rMulL (K : PySem.W.Frag) : R2 := fun x y H Q => ∃ a xs k, x = V.ref a ∧ y = V.int k ∧ SqL K H a xs ∧ (-1000000 ≤ k ∧ k ≤ 1000000) ∧ xs.length * k.toNat ≤ 1000000 ∧ ∀ p, H p = none → Q (.ref p) (upd H p (.lst (List.replicate k.toNat xs).flatten))
theorem vals_rep {xs : List V} {us : List Value} (h : Vals xs us) : ∀ k : Nat, Vals (List.replicate k xs).flatten (List.replicate k us).flatten
  | 0 => .nil
  | k + 1 => by
    rw [List.replicate_succ, List.replicate_succ, List.flatten_cons, List.flatten_cons]
    exact h.append (vals_rep h k)
theorem op_mulL {X : Cx} : OpR X (binaryOp .Mult) (rMulL X.K) := by
  intro pins s σ H x y v u Q I rx ry h
  obtain ⟨a, xs, k, rfl, rfl, hs, ⟨k1, k2⟩, hlen, q⟩ := h
  obtain rfl : v = Value.ref a := rx
  obtain ⟨t, rfl⟩ := (show ∃ t, u = Value.int k t from ry)
  obtain ⟨its, rv, ⟨⟨cls, dd, data, sl⟩, n, ho, hc, hdn, hd⟩, hz⟩ := I.list hs
  have hc1 : cls = Value.type "list" := hc
  have hd1 : data = Data.seq its.toArray n := hd
  subst hc1 hd1
  have hl : its.length * k.toNat ≤ 1000000 := by rw [← rv.length]; exact hlen
  refine wpAny_binaryOp_repeat_ref (T := "list") (U := "int") (by decide) ⟨_, ho, rfl⟩ (fun s' => typeIs_int s' k t) noFill_list_mul F.fills_int_mul F.slot_int_rmul repeat_list F.slot_int_index.lookup
    (call_meets F.slot_int_rmul (typeIs_int s k t) F.entry_int_rmul (F.args_int_rmul_2 _ _) (PySem.lm_int_rmul_list_any k t a its.toArray n dd sl)
      ⟨ho, rfl, ⟨_, ho, rfl⟩, call_meets F.slot_list_mul ⟨_, ho, rfl⟩ F.entry_list_mul (F.args_list_mul_2 _ _)
        (PySem.lm_list_mul_any a its.toArray n dd sl k t (by simp [Builtin.List.listFitsIndex]; omega) (by rw [List.size_toArray]; omega) (by simp [Builtin.List.listTooLong, sizeLine]; omega))
        ⟨ho, ?_⟩⟩)
  rw [PyProof.Rows.listMul_foldl_if]
  refine ⟨.ref s.heap.objs.size, upd H s.heap.objs.size (.lst (List.replicate k.toNat xs).flatten), I.laid (t' := s.toks) (fun b o e => Heap.get?_push_of_some _ e) (Nat.le_refl _) ⟨?_, _, 0, vals_rep rv k.toNat, Heap.get?_push_size _ rfl⟩, rfl, q _ (I.hok.fresh (Nat.le_refl _))⟩
  rw [PyProof.Rows.lm_len_rep_flat, sizeLine_eq]
  have : k.toNat * xs.length ≤ 1000000 := by rw [Nat.mul_comm]; exact hlen
  omega
abbrev rMulV (K : PySem.W.Frag) : R2 := rOr rMulU (rMulL K)
theorem kMulU {X : Cx} {K : PySem.W.Frag} (h : X.K = K) : OpR X (binaryOp .Mult) (rMulV K) := h ▸ op_or2 op_mulU op_mulL
theorem rpAll_rep {K : PySem.W.Frag} {F : Wd} {vs : List V} {ds : List PyData} (h : RpAll K F vs ds) : ∀ k : Nat, RpAll K F (List.replicate k vs).flatten (List.replicate k ds).flatten
  | 0 => .nil
  | k + 1 => by
    rw [List.replicate_succ, List.replicate_succ, List.flatten_cons, List.flatten_cons]
    exact h.append (rpAll_rep h k)
section
variable {J : Jx} {M : Ms} {P : Ent → Ms → Prop} {x y : Ent}
theorem o_mulIv {i j : Int} (hc : CMul i j) (p : P (.d (.int (i * j))) M) : O2 J (rMulV J.K) (.d (.int i)) (.d (.int j)) M P := o_l (o_mulI hc p)
theorem o_mulSv {s : Str} {n : Int} (hc : MulOk s n) (p : P (.d (.str (Txt.mul s n))) M) : O2 J (rMulV J.K) (.d (.str s)) (.d (.int n)) M P := o_l (o_mulS hc p)
theorem o_mulLv {ds : List PyData} {k : Int} (hd : LD M x ds) (hk : -1000000 ≤ k ∧ k ≤ 1000000) (hl : ds.length * k.toNat ≤ 1000000) (p : P (.d (.list (List.replicate k.toNat ds).flatten)) M) : O2 J (rMulV J.K) x (.d (.int k)) M P := o_r fun F Z H v u m xr r1 r2 Q q => by
  obtain ⟨a, vs, rfl, ea, rs⟩ := ld_ok m r1 hd
  cases r2
  refine ⟨a, vs, k, rfl, rfl, ea, hk, by rw [rs.length]; exact hl, fun p0 n => ?_⟩
  obtain ⟨s2, m2⟩ := m.newF (o := .lst (List.replicate k.toNat vs).flatten) n
  exact q _ _ _ (.d (.list _)) M s2 m2 (.lst upd_same ((rpAll_rep rs k.toNat).mono s2)) p
end
/-! ## x is not y -/
abbrev rIsNotU : R2 := rOr rNotN (fun x y H Q => ∃ a b, x = .bl a ∧ y = .bl b ∧ Q (.bl (!decide (a = b))) H)
theorem op_isNotU {X : Cx} : OpR X (compareOp .IsNot) rIsNotU := op_or2 op_notN1 op_isnot_bl
section
variable {J : Jx} {M : Ms} {P : Ent → Ms → Prop} {x : Ent}
theorem o_isNotNu (p : P (.d (.bool (!isN x))) M) : O2 J rIsNotU x (.d .none) M P := o_l (o_notN p)
theorem o_isNotB {a b : Bool} (p : P (.d (.bool (!decide (a = b)))) M) : O2 J rIsNotU (.d (.bool a)) (.d (.bool b)) M P := o_r fun F Z H v u m xr r1 r2 Q q => by
  cases r1
  cases r2
  exact ⟨a, b, rfl, rfl, q _ F H (.d (.bool _)) M (Same.refl F) m (Rp.bl _) p⟩
end
/-! ## cuts from both ends -/
theorem cutD_mid {ds : List PyData} {i j : Int} (hi : 0 ≤ i) (hj : 0 ≤ j) : cutD ds (some i) (some j) = (ds.take j.toNat).drop i.toNat := by
  obtain ⟨n, rfl⟩ := Int.eq_ofNat_of_zero_le hi
  obtain ⟨m, rfl⟩ := Int.eq_ofNat_of_zero_le hj
  unfold cutD
  rw [HT.sIx_nat, HT.sIx_nat]
  show ((ds.drop (min n ds.length)).take (min m ds.length - min n ds.length)) = (ds.take m).drop n
  refine List.ext_getElem? fun k => ?_
  rw [List.getElem?_take, List.getElem?_drop, List.getElem?_drop, List.getElem?_take]
  by_cases h1 : n + k < ds.length
  · rw [show min n ds.length = n by omega]
    by_cases h2 : n + k < m
    · rw [if_pos (by omega), if_pos h2]
    · rw [if_neg (by omega), if_neg h2]
  · rw [List.getElem?_eq_none (l := ds) (i := n + k) (by omega)]
    split
    · rw [List.getElem?_eq_none (by omega)]
      split <;> rfl
    · split <;> rfl
theorem cutD_last {ds : List PyData} {d : PyData} : cutD (ds ++ [d]) (some (-1)) none = [d] := by
  unfold cutD
  have e : HT.sIx (ds ++ [d]).length 0 (some (-1)) = ds.length := by
    simp only [HT.sIx, List.length_append, List.length_singleton]
    rw [if_pos (by decide)]
    omega
  rw [e]
  simp [HT.sIx]
/-! ## calls that name several objects that may change -/
def refsOf : List Ent → List Nat
  | [] => []
  | .r n :: r => n :: refsOf r
  | _ :: r => refsOf r
def okB (s : List Nat) (M : Ms) : Bool := s.all fun n => match M[n]? with
  | some (some m) => flatM m
  | _ => false
def FrN (P : Ent → Ms → Prop) (M : Ms) (s : List Nat) (e : Ent) (M2 : Ms) : Prop := P (e.back s M.length) (mergeM M s M2)
def FxN (X : Xa) (M : Ms) (s : List Nat) : Xa := fun k xs M2 => X k (xs.map fun p => (p.1, p.2.back s M.length)) (mergeM M s M2)
theorem refs_in : ∀ (es : List Ent) {s : List Nat}, (∀ n ∈ refsOf es, n ∈ s) → ∀ e ∈ es, e.inS s
  | [], _, _, _, h => by cases h
  | .r n :: r, s, hs, e, h => by
    rcases List.mem_cons.mp h with rfl | h
    · exact hs n (List.mem_cons_self ..)
    · exact refs_in r (fun i hi => hs i (List.mem_cons_of_mem _ hi)) e h
  | .d _ :: r, s, hs, e, h => by
    rcases List.mem_cons.mp h with rfl | h
    · trivial
    · exact refs_in r hs e h
  | .w _ :: r, s, hs, e, h => by
    rcases List.mem_cons.mp h with rfl | h
    · trivial
    · exact refs_in r hs e h
  | .t _ :: r, s, hs, e, h => by
    rcases List.mem_cons.mp h with rfl | h
    · trivial
    · exact refs_in r hs e h
  | .g _ :: r, s, hs, e, h => by
    rcases List.mem_cons.mp h with rfl | h
    · trivial
    · exact refs_in r hs e h
def selN (s : List Nat) (M : Ms) : Ms := s.map fun n => M[n]?.getD none
def mergeN (M : Ms) (s : List Nat) (M2 : Ms) : Ms := putM s M2 M ++ M2.drop s.length
theorem selN_eq {s : List Nat} {M : Ms} (hok : okB s M = true) : selM s M = selN s M := by
  unfold selM selN
  refine List.map_congr_left fun n hn => ?_
  have := List.all_eq_true.mp hok n hn
  split at this
  · rename_i m e
    rw [e]
    show some (m.map _) = some m
    rw [flat_map (fun e h => (sel_isD h).1) this]
  · cases this
theorem mergeN_eq {M M2 : Ms} {s : List Nat} (hf : flatMs M2 = true) : mergeM M s M2 = mergeN M s M2 := by
  have e : backM s M.length M2 = M2 := by
    unfold backM
    conv => rhs; rw [← List.map_id M2]
    refine List.map_congr_left fun o ho => ?_
    cases o with
    | none => rfl
    | some m =>
      obtain ⟨i, hi⟩ := List.mem_iff_getElem?.mp ho
      have := flatMs_at hf hi
      show some (m.map _) = some m
      rw [flat_map (fun e h => back_isD h) this]
  unfold mergeM mergeN
  rw [e]
theorem frR {c : ASp} {es es' : List Ent} {M M' : Ms} {P : Ent → Ms → Prop} {X : Xa} {s : List Nat} (hs : refsOf es = s) (hd : decide s.Nodup = true) (hok : okB s M = true) (he : es.map (Ent.sel s) = es') (hM : selN s M = M') (h : c es' M' (FrN P M s) (FxN X M s)) : Fr c es M P X := by
  subst he hM
  rw [← selN_eq hok] at h
  have at_ : ∀ n ∈ s, ∃ m, M[n]? = some (some m) ∧ flatM m = true := fun n hn => by
    have := List.all_eq_true.mp hok n hn
    split at this
    · rename_i m e
      exact ⟨m, e, this⟩
    · cases this
  refine ⟨s, ⟨of_decide_eq_true hd, fun n hn => ?_, fun n hn m e => ?_⟩, refs_in es (fun n hn => hs ▸ hn), h⟩
  · obtain ⟨m, e, _⟩ := at_ n hn
    exact at_lt e
  · obtain ⟨m', e', hf⟩ := at_ n hn
    rw [e] at e'
    cases e'
    exact flat_in hf
theorem frN_d {P : Ent → Ms → Prop} {M M2 M' : Ms} {s : List Nat} {x : PyData} (hf : flatMs M2 = true) (hM : mergeN M s M2 = M') (h : P (.d x) M') : FrN P M s (.d x) M2 := by
  rw [← mergeN_eq hf] at hM
  subst hM
  exact h
theorem frN_e {P : Ent → Ms → Prop} {M M2 M' : Ms} {s : List Nat} {e e' : Ent} (he : e.back s M.length = e') (hM : mergeM M s M2 = M') (h : P e' M') : FrN P M s e M2 := by
  subst he hM
  exact h
theorem wpk {s : Str} {R : Key → Prop} (h : R (.inr s)) : ∃ k, Ent.d (.str s) = .d (kE k) ∧ R k := ⟨.inr s, rfl, h⟩
theorem l_last {J : Jx} {M : Ms} {P : Ent → Ms → Prop} {y : Ent} {ds : List PyData} (hd : LD M y ds) (p : P (.d (.list (cutD ds (some (-1)) none))) M) : OS J (rSlU J.K) y (some (-1)) none M P := l_list hd p
/-! ## lists of plain values, compared -/
def flatOk : PyData → Bool
  | .str s => okS s
  | .none => true
  | .bool _ => true
  | .int _ => true
  | _ => false
theorem flat_lay : ∀ {ds : List PyData}, ds.all flatOk = true → noObjs ds = true ∧ PyData.canLayAll0 ds = true ∧ PyData.depthAll ds = 0 ∧ PyData.eqvAll ds ds = true
  | [], _ => ⟨rfl, rfl, rfl, rfl⟩
  | d :: ds, h => by
    rw [List.all_cons, Bool.and_eq_true] at h
    obtain ⟨h1, h2, h3, h4⟩ := flat_lay h.2
    cases d with
    | none => exact ⟨h1, h2, by show max 0 (PyData.depthAll ds) = 0; rw [h3]; rfl, h4⟩
    | bool b => exact ⟨h1, h2, by show max 0 (PyData.depthAll ds) = 0; rw [h3]; rfl, by show (PyData.eqv (.bool b) (.bool b) && _) = true; rw [h4]; simp [PyData.eqv]⟩
    | int i => exact ⟨h1, h2, by show max 0 (PyData.depthAll ds) = 0; rw [h3]; rfl, by show (PyData.eqv (.int i) (.int i) && _) = true; rw [h4]; simp [PyData.eqv]⟩
    | str s => exact ⟨h1, by show (PyData.strOk s && _) = true; rw [h2, strOk_iff h.1]; rfl, by show max 0 (PyData.depthAll ds) = 0; rw [h3]; rfl, by show (PyData.eqv (.str s) (.str s) && _) = true; rw [h4]; simp [PyData.eqv]⟩
    | _ => cases h.1
theorem flat_list {ds : List PyData} (h : ds.all flatOk = true) : noObj (.list ds) = true ∧ SeqAt.shaped (.list ds) = true ∧ PyData.eqv (.list ds) (.list ds) = true := by
  obtain ⟨h1, h2, h3, h4⟩ := flat_lay h
  refine ⟨h1, ?_, h4⟩
  show (PyData.canLayAll0 ds && decide (PyData.depthAll ds + 1 ≤ 64)) = true
  rw [h2, h3]
  rfl
theorem o_eqFl {J : Jx} {M : Ms} {P : Ent → Ms → Prop} {ds : List PyData} (h : ds.all flatOk = true) (p : P (.d (.bool true)) M) : O2 J (rEqU J.K) (.d (.list ds)) (.d (.list ds)) M P := by
  obtain ⟨h1, h2, h3⟩ := flat_list h
  exact o_eqL DV.d DV.d h1 h1 h2 h2 (by rw [h3]; exact p)
/-! ## a comprehension that changes nothing, its list may change -/
def LcfM (J : Jx) (Γ : Ga) (g : TG) (tt : TT) (te : TE) (P : Ent → Ms → Prop) (vs : List Nat) (its : List Ent) (G : Ms → Prop) (M1 : Ms) : Prop := ∃ (α : Type) (xs : List α) (e : α → Ent) (p : α → Bool) (f : α → PyData), its = xs.map e ∧ xs.length ≤ sizeLine ∧ G M1 ∧
      (∀ x, x ∈ xs → GT J g (e x) (wipeG Γ vs) M1 fun Γ2 M2 => M2 = M1 ∧ (∀ B : Bool → Ms → Prop, B (p x) M1 → WT J tt Γ2 M1 B) ∧ (p x = true → ∀ R : Ent → Ms → Prop, R (.d (f x)) M1 → Wx J te Γ2 M1 R)) ∧
      P (.r M1.length) (M1 ++ [some (.lst ((xs.filter p).map f))])
theorem w_lcEM {J : Jx} {Γ : Ga} {M : Ms} {wi : TI} {g : TG} {tt : TT} {te : TE} {P : Ent → Ms → Prop} {vs : List Nat} (hw : WpOk g vs)
    (h : WI J wi Γ M fun its G M1 => LcfM J Γ g tt te P vs its G M1) : Wx J (tLc wi g tt te vs) Γ M P := by
  refine w_lcM hw ?_
  intro F Z σ H en m x R q
  refine h F Z σ H en m x R fun I F' H' M' its G s m' aw hh => ?_
  obtain ⟨α, xs, e, p, f, e1, hl, hG, hs, hp⟩ := hh
  subst e1
  refine q I F' H' _ _ G s m' aw ⟨fun i ds M2 => M2 = M' ∧ ds = ((xs.take i).filter p).map f, by rw [List.length_map]; exact hl, ⟨rfl, rfl⟩, fun i ds M2 _ ⟨z, _⟩ => by rw [z]; exact hG, ?_, ?_⟩
  · rintro i ee ds M2 hi ⟨rfl, rfl⟩
    rw [List.getElem?_map] at hi
    cases ex : xs[i]? with
    | none =>
      rw [ex] at hi
      cases hi
    | some x =>
      rw [ex] at hi
      have he : ee = e x := (Option.some.inj hi).symm
      subst he
      have tk : xs.take (i + 1) = xs.take i ++ [x] := by rw [List.take_add_one, ex]; rfl
      intro F2 Z2 σ2 H2 v en2 mm2 x2 r2 Q2 q2
      refine hs x (List.mem_of_getElem? ex) F2 Z2 σ2 H2 v en2 mm2 x2 r2 Q2 fun F3 H3 σ3 Γ3 M3 s3 m3 en3 hh => ?_
      obtain ⟨rfl, ht, he⟩ := hh
      refine q2 F3 H3 σ3 Γ3 _ s3 m3 en3 (ht _ ⟨fun hb => ?_, fun hb => ?_⟩)
      · exact he hb _ ⟨_, rfl, rfl, by rw [tk, List.filter_append, List.map_append, List.filter_cons, if_pos hb]; rfl⟩
      · exact ⟨rfl, by rw [tk, List.filter_append, List.map_append, List.filter_cons, if_neg (by rw [hb]; decide)]; simp⟩
  · rintro ds M2 _ ⟨rfl, rfl⟩
    rw [List.length_map, List.take_length]
    exact hp
end Z
set_option Elab.async false
set_option linter.all false
set_option maxRecDepth 100000
set_option maxHeartbeats 4000000
namespace Z
open PySem PySem.Spec L2
/-! ## a class's constants, read off the class -/
def fCRd (cn : Str) : Fct := fun K => PySem.W.readsIn K (He.ga K cn) (.type "type") && decide (PySem.W.specialIn K (.ref (He.ga K cn)) "__getattribute__" = some (some (.builtin "type.__getattribute__")))
theorem crd_ok {K : PySem.W.Frag} {cn : Str} (h : fCRd cn K = true) : ClX.CRead K (He.ga K cn) (.type "type") := by
  obtain ⟨h1, h2⟩ := He.ba h
  exact ⟨h1, of_decide_eq_true h2⟩
/-- cn.f is the int n -/
def fCInt (cn f : Str) (n : Int) : Fct := fun K => match PySem.W.findCls K (.ref (He.ga K cn)) (.type "type") f with
  | some (.val (.int m _)) => decide (m = n)
  | _ => false
theorem cint_ok {K : PySem.W.Frag} {cn f : Str} {n : Int} (h : fCInt cn f n K = true) : ∃ u, ClX.CVal K (He.ga K cn) (.type "type") f (.int n) u := by
  unfold fCInt at h
  split at h
  · rename_i m t e
    have := of_decide_eq_true h
    subst this
    exact ⟨_, e, ⟨t, rfl⟩⟩
  · cases h
/-- a tuple of constants that stands at a -/
def tupAt (K : PySem.W.Frag) (a : Addr) (vs : List He.Dv) : Bool := match K.lookup a with
  | some ⟨.type c, _, .seq its _, _⟩ => decide (c = "tuple") && (decide (its.size ≤ sizeLine) && He.relAll (vs.map (He.Dv.v K)) its.toList)
  | _ => false
/-- cn.f is the tuple vs -/
def fCTup (cn f : Str) (vs : List He.Dv) : Fct := fun K => match PySem.W.findCls K (.ref (He.ga K cn)) (.type "type") f with
  | some (.val (.ref a)) => tupAt K a vs
  | _ => false
end Z
namespace Z
open PySem PySem.Spec L2
theorem tupAt_ok {K : PySem.W.Frag} {a : Addr} {vs : List He.Dv} (h : tupAt K a vs = true) (H : Hp) : SqT K H a (vs.map (He.Dv.v K)) := by
  unfold tupAt at h
  cases q : K.lookup a with
  | none =>
    rw [q] at h
    cases h
  | some o =>
    obtain ⟨oc, od, dt, osl⟩ := o
    rw [q] at h
    cases oc with
    | type c =>
      cases dt with
      | seq its n =>
        obtain ⟨h1, h2⟩ := He.ba (show (decide (c = "tuple") && (decide (its.size ≤ sizeLine) && He.relAll (vs.map (He.Dv.v K)) its.toList)) = true from h)
        obtain ⟨h3, h4⟩ := He.ba h2
        exact .inr ⟨_, its, n, q, congrArg Value.type (of_decide_eq_true h1), rfl, of_decide_eq_true h3, He.relAll_ok h4⟩
      | _ => cases h
    | _ => cases dt <;> cases h
theorem ctup_ok {K : PySem.W.Frag} {cn f : Str} {vs : List He.Dv} (h : fCTup cn f vs K = true) : ∃ a, ClX.CVal K (He.ga K cn) (.type "type") f (.ref a) (.ref a) ∧ ∀ H, SqT K H a (vs.map (He.Dv.v K)) := by
  unfold fCTup at h
  split at h
  · rename_i a e
    exact ⟨a, ⟨e, rfl⟩, tupAt_ok h⟩
  · cases h
def tCInt (n : Int) : TE := fun _ H Q => Q (.int n) H
def tCTup (K : PySem.W.Frag) (vs : List He.Dv) : TE := fun _ H Q => ∀ a, (∀ H', SqT K H' a (vs.map (He.Dv.v K))) → Q (.ref a) H
section
variable {X : Cx} {K : PySem.W.Frag} {cn f : Str} {p pos : Pos} {n : Int} {vs : List He.Dv}
theorem ke_cint (h : X.K = K) (hr : fCRd cn K = true) (hc : fCInt cn f n K = true) (hm : X.mg cn = some (.ref (He.ga K cn))) (hg : Gl X cn) (hb : attributeBase (.Name cn p) f X.env (eval (.Name cn p) X.env) = eval (.Name cn p) X.env := by rfl) (hd : (cn == ("__debug__" : Str)) = false := by decide) : PE X (.Attribute (.Name cn p) f pos) (tCInt n) := by
  subst h
  obtain ⟨u, c⟩ := cint_ok hc
  have q := ClX.pe_cval (f := f) (pos := pos) (pe_glob (pos := p) (v := .ref (He.ga X.K cn)) hg hm rfl hd) hb
  exact ⟨fun pins s σ H Q I h => q.run pins s σ H Q I ⟨_, _, _, u, rfl, crd_ok hr, c, h⟩⟩
theorem ke_ctup (h : X.K = K) (hr : fCRd cn K = true) (hc : fCTup cn f vs K = true) (hm : X.mg cn = some (.ref (He.ga K cn))) (hg : Gl X cn) (hb : attributeBase (.Name cn p) f X.env (eval (.Name cn p) X.env) = eval (.Name cn p) X.env := by rfl) (hd : (cn == ("__debug__" : Str)) = false := by decide) : PE X (.Attribute (.Name cn p) f pos) (tCTup K vs) := by
  subst h
  obtain ⟨a, c, t⟩ := ctup_ok hc
  have q := ClX.pe_cval (f := f) (pos := pos) (pe_glob (pos := p) (v := .ref (He.ga X.K cn)) hg hm rfl hd) hb
  exact ⟨fun pins s σ H Q I h => q.run pins s σ H Q I ⟨_, _, _, _, rfl, crd_ok hr, c, h a t⟩⟩
end
section
variable {J : Jx} {Γ : Ga} {M : Ms} {P : Ent → Ms → Prop} {n : Int}
theorem w_cint (p : P (.d (.int n)) M) : Wx J (tCInt n) Γ M P := fun F Z σ H en m x Q q => q _ F H (.d (.int n)) M (Same.refl F) m (Rp.int n) p
theorem w_ctup {vs : List He.Dv} {ds : List PyData} (hd : dvDs vs = some ds) (p : P (.d (.tuple ds)) M) : Wx J (tCTup J.K vs) Γ M P := fun F Z σ H en m xr Q q => fun a hs =>
  q _ F H (.d (.tuple ds)) M (Same.refl F) m (Rp.tup (hs F.F) (dvDs_ok hd)) p
end
/-! ## for a, b in zip(xs, ys) -/
end Z
namespace Z
open PySem PySem.Spec L2
/-- a new pair at each turn -/
theorem aw_pair {K : PySem.W.Frag} {F : Wd} {Z : Hp} {I : It} {ds es : List PyData} {n : Nat} {f g : Nat → Option V} {S : Hp → Prop} (w : Walk I n S (YPair f g)) (hS : ∀ F1 M H, Same F F1 → Mem K F1 M Z H → S H) (hn : (ds.zip es).length = n)
    (hf : ∀ i F1 x d, Same F F1 → f i = some x → ds[i]? = some d → Rp K F1 x d) (hg : ∀ i F1 x d, Same F F1 → g i = some x → es[i]? = some d → Rp K F1 x d) : AW K F Z I ((ds.zip es).map fun p => Ent.d (.tuple [p.1, p.2])) GT0 where
  goes := fun F1 M H i s m _ hi => w.goes i H (by rw [List.length_map, hn] at hi; exact hi) (hS F1 M H s m)
  stops := fun F1 M H s m _ => by
    have q := w.stops H (hS F1 M H s m)
    rw [List.length_map, hn]
    exact q
  yields := fun F1 M H i x H' s m _ hi y => by
    rw [List.length_map] at hi
    obtain ⟨T, a, b, rfl, nT, rfl, ea, eb⟩ := w.yields i H x H' (by rw [← hn]; exact hi) (hS F1 M H s m) y
    obtain ⟨s2, m2⟩ := m.newF (o := .tup [a, b]) nT
    rw [List.length_zip] at hi
    have h1 : i < ds.length := by omega
    have h2 : i < es.length := by omega
    have r1 := hf i F1 a ds[i] s ea (List.getElem?_eq_getElem h1)
    have r2 := hg i F1 b es[i] s eb (List.getElem?_eq_getElem h2)
    refine ⟨_, .d (.tuple [ds[i], es[i]]), s2, m2, ?_, Rp.tup (.inl (.inl upd_same)) (.cons (r1.mono s2) (.cons (r2.mono s2) .nil))⟩
    rw [List.getElem?_map, List.getElem?_eq_getElem (by rw [List.length_zip]; omega), List.getElem_zip]
    rfl
section
variable {J : Jx} {Γ : Ga} {M : Ms} {P : List Ent → (Ms → Prop) → Ms → Prop} {ta : TA}
theorem wi_zip (h : WA J ta Γ M fun xs M1 => ∃ ds es, xs = [.d (.list ds), .d (.list es)] ∧ P ((ds.zip es).map fun p => Ent.d (.tuple [p.1, p.2])) GT0 M1) : WI J (iZip J.K ta) Γ M P := fun F Z σ H en m x R q =>
  h F Z σ H en m x _ fun vs F1 H1 xs M1 s1 m1 r1 ⟨ds, es, ed, p⟩ => by
    subst ed
    cases r1 with
    | cons r0 rt =>
      cases rt with
      | cons r2 rt =>
        cases rt
        cases r0 with
        | lst ea ra =>
          cases r2 with
          | lst eb rb =>
            refine ⟨_, _, _, _, rfl, .inl (.inl (m1.sub _ _ ea)), .inl (.inl (m1.sub _ _ eb)), q _ F1 H1 M1 _ GT0 s1 m1 (fun Z' _ => aw_pair (walk_zip rfl) (fun F2 M2 H2 s2 m2 => ⟨.inl (.inl (m2.sub _ _ (s2.F _ _ ea))), .inl (.inl (m2.sub _ _ (s2.F _ _ eb)))⟩) ?_ ?_ ?_) p⟩
            · rw [List.length_zip, ra.length, rb.length]
            · intro i F2 x d s e1 e2
              exact (ra.get e1 e2).mono s
            · intro i F2 x d s e1 e2
              exact (rb.get e1 e2).mono s
theorem wi_enum (h : WA J ta Γ M fun xs M1 => ∃ ds, xs = [.d (.list ds)] ∧ P ((((List.range ds.length).map fun (i : Nat) => PyData.int (i : Int)).zip ds).map fun p => Ent.d (.tuple [p.1, p.2])) GT0 M1) : WI J (iEnum J.K ta) Γ M P := fun F Z σ H en m x R q =>
  h F Z σ H en m x _ fun vs F1 H1 xs M1 s1 m1 r1 ⟨ds, ed, p⟩ => by
    subst ed
    cases r1 with
    | cons r0 rt =>
      cases rt
      cases r0 with
      | lst ea ra =>
        refine ⟨_, _, rfl, .inl (.inl (m1.sub _ _ ea)), q _ F1 H1 M1 _ GT0 s1 m1 (fun Z' _ => aw_pair walk_enum (fun F2 M2 H2 s2 m2 => .inl (.inl (m2.sub _ _ (s2.F _ _ ea)))) ?_ ?_ ?_) p⟩
        · rw [List.length_zip, List.length_map, List.length_range, ra.length]
          omega
        · intro i F2 x d s e1 e2
          rw [List.getElem?_map] at e2
          cases e3 : (List.range ds.length)[i]? with
          | none => rw [e3] at e2; cases e2
          | some j =>
            have hj := (List.getElem?_eq_some_iff.mp e3).2
            rw [List.getElem_range] at hj
            rw [e3, ← hj] at e2
            cases e2
            cases e1
            exact Rp.int _
        · intro i F2 x d s e1 e2
          exact (ra.get e1 e2).mono s
end
end Z
set_option Elab.async false
set_option linter.all false
set_option maxRecDepth 100000
set_option maxHeartbeats 4000000
namespace Z
open PySem PySem.Spec PyProof.Rows L2
/-! ## e.replace of two written texts: a token is out -/
section
variable {X : Cx} {K : PySem.W.Frag} {cx : CXT} {k j : Nat} {ps : List Str} {c : ASp} {x : Str} {st : Stmt} {p pos : Pos} {a b e : Expr} {rest es : List Expr} {ta tb te : TE} {t : TA} {E : L2.St → XK}
theorem pet_andT (h : X.K = K) (ha : PET X a ta) (hb : PET X (.BoolOp .And (b :: rest) pos) tb) : PET X (.BoolOp .And (a :: b :: rest) pos) (tAndT K ta tb) := by
  subst h
  intro pins s σ H Q h0 I h
  refine BoolOp_and (wpAny_mono (PySem.wpAny_toks (ha pins s σ H _ h0 I h)) (fun v s1 q => ?_) fun _ _ z => z.2)
  obtain ⟨hk, x, H1, I1, r1, kk, e, q1⟩ := q
  refine wpAny_mono (PySem.wpAny_toks (L2.tru_ok pins s1 σ H1 x v (fun c H2 => c = kk ∧ H2 = H1) I1 r1 ⟨kk, e, rfl, rfl⟩)) (fun c s2 hc => ?_) fun _ _ z => z.2
  obtain ⟨hk2, H2, I2, e1, e2⟩ := hc
  rw [e2] at I2
  rw [← e1] at q1
  cases c with
  | true => exact hb pins s2 σ H1 Q (Nat.le_trans h0 (Nat.le_trans hk hk2)) I2 q1
  | false => exact ⟨x, H1, I2, r1, q1⟩
theorem pet_one {op} (h : PET X a te) : PET X (.BoolOp op [a] pos) te := fun pins s σ H Q h0 I hw => BoolOp_one (h pins s σ H Q h0 I hw)
theorem pat_of {es : List Expr} (h : PA X es t) : PAT X es t := fun pos pins s σ H Q _ I q => h.run pos pins s σ H Q I q
theorem pet_callSD {f : Addr} {fd : FuncData} {sp : Sp} {dvs : List V} {ds : List Value} (F : FnOk X.prog X.w X.K X.mg X.base cx k f fd ps sp) (hr : Room k X.A) (hg : Gl X x) (hm : X.mg x = some (.ref f)) (hk : PySem.W.keepIn X.K (.ref f) = true) (hb : Binds X.K fd ps ds) (hd : Vals dvs ds) (hx : ∀ σ, PassesAt cx X σ (E σ))
    (ha : PAT X (e :: es) t) (hdb : (x == ("__debug__" : Str)) = false := by decide) (he : starEach (e :: es) X.env = (false, eval e X.env) :: starEach es X.env := by rfl) (hpl : (backTo pos (starEach es X.env)).any (·.1) = false := by rfl) :
    PET X (.Call (.Name x p) (e :: es) [] pos) (tCallSD sp dvs E t) := by
  intro pins s σ H Q h0 I h
  refine wpAny_Call_Name_kw (ld_glob I hg hm ?_ hdb)
  refine PySem.W.callWith_K (h₀ := X.base) I.ok.mod.kin hk (thn (ha pos pins s σ H _ h0 I h) fun us s1 ⟨vs, H1, I1, r, q⟩ => ⟨I1.kIn, ?_⟩) he hpl
  exact run_fnSD F hr hb hd (hx σ) I1 r q
theorem pet_ca (h : X.K = K) (C : Ca X.prog X.w K X.mg X.base cx x st k ps c) (hr : Room j X.A) (hk : k ≤ j) (hg : Gl X x) (hx : ∀ σ, PassesAt cx X σ (E σ)) (ha : PAT X (e :: es) t)
    (hdb : (x == ("__debug__" : Str)) = false := by decide) (he : starEach (e :: es) X.env = (false, eval e X.env) :: starEach es X.env := by rfl) (hpl : (backTo pos (starEach es X.env)).any (·.1) = false := by rfl) :
    PET X (.Call (.Name x p) (e :: es) [] pos) (tCallSD (spA K c) [] E t) := by
  subst h
  obtain ⟨fd, F, fu, b⟩ := C.ex
  exact pet_callSD F (hr.mono hk) hg C.gl fu.kp b .nil hx ha hdb he hpl
end
/-! a token is out behind e -/
def PEG (X : Cx) (e : Expr) (t : TE) : Prop :=
  ∀ (pins : List (Addr × Obj)) (s : Shared) (σ : L2.St) (H : Hp) (Q : VK), Inv X pins σ H s → t σ H Q → wpAny (model X.prog X.w) X.A (eval e X.env) (fun v s' => 1 ≤ s'.toks ∧ EP X pins σ Q v s') X.xe s
section
variable {X : Cx} {K : PySem.W.Frag} {cn f : Str} {p pos : Pos} {n : Int} {a b : Expr} {rest : List Expr} {ta tb : TE}
theorem peg_cint (h : X.K = K) (hr : fCRd cn K = true) (hc : fCInt cn f n K = true) (hm : X.mg cn = some (.ref (He.ga K cn))) (hg : Gl X cn) (hb : attributeBase (.Name cn p) f X.env (eval (.Name cn p) X.env) = eval (.Name cn p) X.env := by rfl) (hd : (cn == ("__debug__" : Str)) = false := by decide) : PEG X (.Attribute (.Name cn p) f pos) (tCInt n) := by
  subst h
  obtain ⟨u, c⟩ := cint_ok hc
  have q := pe_glob (pos := p) (v := V.ref (He.ga X.K cn)) hg hm rfl hd
  intro pins s σ H Q I h
  refine attr_of hb (thn (q.run pins s σ H (fun v H' => v = .ref (He.ga X.K cn) ∧ H' = H) I ⟨rfl, rfl⟩) fun w s1 ⟨x, H1, I1, rx, ex, eh⟩ => ?_)
  subst ex
  subst eh
  obtain rfl : w = Value.ref (He.ga X.K cn) := rx
  exact PySem.W.cls_value I1.kIn (crd_ok hr).rd c.at_ (handed_of c.rel) ⟨by show 1 ≤ s1.toks + 1; omega, _, _, I1.tok _, c.rel, h⟩
theorem peg_cmp {op : CmpOp} {r : R2} (ho : OpR X (compareOp op) r) (ha : PE X a ta) (hb : PEG X b tb) (hm : behindInMarks op b = false) : PEG X (.Compare a [op] [b] pos) (tOp r ta tb) := by
  intro pins s σ H Q I h
  refine wpAny_Compare1 (thn (ha.run pins s σ H _ I h) fun v s1 ⟨x, H1, I1, r1, q1⟩ => thn (hb pins s1 σ H1 _ I1 q1) fun u s2 ⟨hk, y, H2, I2, r2, q2⟩ => ?_) hm
  exact wpAny_mono (PySem.wpAny_toks (ho pins s2 σ H2 x y v u Q I2 r1 r2 q2)) (fun z s3 q => ⟨Nat.le_trans hk q.1, q.2⟩) fun _ _ z => z.2
theorem pe_andG (h : X.K = K) (ha : PEG X a ta) (hb : PET X (.BoolOp .And (b :: rest) pos) tb) : PE X (.BoolOp .And (a :: b :: rest) pos) (tAndT K ta tb) := by
  subst h
  refine ⟨fun pins s σ H Q I h => ?_⟩
  refine BoolOp_and (thn (ha pins s σ H _ I h) fun v s1 ⟨hk, x, H1, I1, r1, kk, e, q1⟩ => ?_)
  refine wpAny_mono (PySem.wpAny_toks (L2.tru_ok pins s1 σ H1 x v (fun c H2 => c = kk ∧ H2 = H1) I1 r1 ⟨kk, e, rfl, rfl⟩)) (fun c s2 hc => ?_) fun _ _ z => z.2
  obtain ⟨hk2, H2, I2, e1, e2⟩ := hc
  rw [e2] at I2
  rw [← e1] at q1
  cases c with
  | true => exact hb pins s2 σ H1 Q (Nat.le_trans hk hk2) I2 q1
  | false => exact ⟨x, H1, I2, r1, q1⟩
end
theorem cv_adr {a : Addr} {vs : List V} {es : List Ent} (h : CVs vs es) : CVs (.ref a :: vs) (.g a :: es) := fun K F => .cons (show RE K F (V.ref a) (Ent.g a) from rfl) (h K F)
section
variable {J : Jx} {Γ : Ga} {M : Ms} {P : Ent → Ms → Prop} {ta : TE} {y z : Str}
/-- e.replace(y, z) -/
def ReplK (y z : Str) (P : Ent → Ms → Prop) (e : Ent) (M : Ms) : Prop := ∃ x : Str, e = .d (.str x) ∧ x.length + (x.length + 1) * z.length ≤ 16777216 ∧ P (.d (.str (Txt.replace x y z))) M
theorem ex_repl {x : Str} (hb : x.length + (x.length + 1) * z.length ≤ 16777216) (p : P (.d (.str (Txt.replace x y z))) M) : ReplK y z P (.d (.str x)) M := ⟨x, rfl, hb, p⟩
theorem w_repl (h : Wx J ta Γ M fun e M' => ReplK y z P e M') : Wx J (CwR.tReplC ta y z) Γ M P := fun F Z σ H en mm x Q q => by
  refine h F Z σ H en mm x _ fun v F' H' e M' s m r hp => ?_
  obtain ⟨t, rfl, hb, hp⟩ := hp
  cases r
  exact ⟨t, rfl, hb, q _ F' H' _ M' s m (show RE J.K F' (.str (Txt.replace t y z)) (.d (.str (Txt.replace t y z))) from Rp.str _) hp⟩
end
/-! ## a static method by a name that holds the class -/
/-- body, where e is the class at C -/
def tAtC (C : Addr) (ta body : TE) : TE := fun σ H Q => ta σ H fun v H1 => v = .ref C ∧ body σ H1 Q
section
variable {X : Cx} {K : PySem.W.Frag} {cx : CXT} {cn m x qual : Str} {st : Stmt} {dvs : List V} {kwl : List (Str × V)} {k j n : Nat} {ps ks : List Str} {c : ASp} {cvs : List V} {ix : List Nat} {E : L2.St → XK} {o e : Expr} {es : List Expr} {kws : List Keyword} {ta : TE} {t tk : TA} {pos apos : Pos} {pl : Sem Bool}
theorem ke_stv (h : X.K = K) (S : StatOk K cn m) (he : PE X o ta) (C : Cr X.prog X.w K X.mg X.base cx (cn, some m) x qual st dvs kwl k ps c) (hr : Room j X.A) (hj : k ≤ j) (hb : ∀ fd, FunB K x qual (defArgs st) (defBody st) (defScope st) dvs kwl fd → KBp K fd ps n ks cvs ix) (hx : ∀ σ, PassesAt cx X σ (E σ))
    (ha : PA X (e :: es) t) (hkw : PK X kws tk) (hall : (backToKw pos (keywordEach kws X.env)).all (·.1.isSome) = true := by rfl) (hks : (backToKw pos (keywordEach kws X.env)).filterMap (·.1) = ks := by rfl)
    (hst : starEach (e :: es) X.env = (false, eval e X.env) :: starEach es X.env := by rfl) (hpl : ((backTo pos (starEach (e :: es) X.env)).any (·.1) || (backToKw pos (keywordEach kws X.env)).any (·.1.isNone)) = false := by rfl)
    (ht : eval (.Call (.Attribute o m apos) (e :: es) kws pos) X.env = (do
      let ov ← eval o X.env
      standAt apos.atName
      let (f, first) ← holding [ov] (getMethod ov m pl)
      callWith pos f first (backTo pos (starEach (e :: es) X.env)) (backToKw pos (keywordEach kws X.env))) := by rfl) :
    PE X (.Call (.Attribute o m apos) (e :: es) kws pos) (tAtC (He.ga K cn) ta (tCaN n ks.length (spA K c) cvs ix E t tk)) := by
  subst h
  obtain ⟨fd, F, B, kp⟩ := C.ex
  obtain ⟨cs, hb⟩ := hb fd B
  refine ⟨fun pins s σ H Q I h => ?_⟩
  refine PySem.W.methodCall_KW (pl := pl) (thn (he.run pins s σ H _ I h) fun u s1 ⟨v, H1, I1, rx, ev, q⟩ => ?_) ht
  subst ev
  obtain rfl : u = Value.ref (He.ga X.K cn) := rx
  refine getmethst_ok I1 S fun s2 I2 => ?_
  refine PySem.W.callWith_KW (first := []) (h₀ := X.base) I.ok.mod.kin kp hall (thn (ha.run pos pins s2 σ _ _ I2 q) fun us s3 ⟨vs, H2, I3, r, q2⟩ => ?_) hpl hst
  refine thn (hkw.run pos pins s3 σ H2 _ I3 q2) fun ws s4 ⟨zs, H3, I4, rz, l1, l2, q3⟩ => ⟨I4.kIn, ?_⟩
  rw [hks]
  exact run_fnS F (hr.mono hj) hb (hx σ) I4 r rz l1 l2 q3
end
section
variable {J : Jx} {Γ : Ga} {M : Ms} {P : Ent → Ms → Prop} {ta tb : TE} {C : Addr}
theorem w_atC (h : Wx J ta Γ M fun e M' => e = .g C ∧ Wx J tb Γ M' P) : Wx J (tAtC C ta tb) Γ M P := fun F Z σ H en mm x Q q => by
  refine h F Z σ H en mm x _ fun v F' H' e M' s m r hp => ?_
  obtain ⟨rfl, hp⟩ := hp
  refine ⟨r, ?_⟩
  exact hp F' Z σ H' (en.mono s) m (x.mono s) Q fun v2 F2 H2 e2 M2 s2 m2 r2 p2 => q v2 F2 H2 e2 M2 (s.trans s2) m2 r2 p2
end
/-! ## class methods, by the class's name -/
def fCmt (cn m : Str) : Fct := fun K => PySem.W.readsIn K (He.ga K cn) (.type "type") && (decide (PySem.W.specialIn K (.ref (He.ga K cn)) "__getattribute__" = some (some (.builtin "type.__getattribute__"))) && ((match PySem.W.findCls K (.ref (He.ga K cn)) (.type "type") m with
  | some (.get (.builtin b) (.ref p) .none (.ref C)) => decide (b = "classmethod.__get__") && (decide (p = He.fAd K (cn, some m)) && decide (C = He.ga K cn))
  | _ => false) && ((match PySem.W.recIn K (He.fAd K (cn, some m)) "classmethod" with
  | some (.ref g :: _) => decide (g = recG K (He.fAd K (cn, some m)))
  | _ => false) && PySem.W.fnIn K (recG K (He.fAd K (cn, some m))))))
theorem cmt_ok {K : PySem.W.Frag} {cn m : Str} (h : fCmt cn m K = true) : ClX.CRead K (He.ga K cn) (.type "type") ∧ ClX.CMet K (He.ga K cn) (.type "type") m (He.fAd K (cn, some m)) (recG K (He.fAd K (cn, some m))) := by
  obtain ⟨a1, h⟩ := He.ba h
  obtain ⟨a2, h⟩ := He.ba h
  obtain ⟨a3, h⟩ := He.ba h
  obtain ⟨a4, a5⟩ := He.ba h
  refine ⟨⟨a1, of_decide_eq_true a2⟩, ?_, ?_, a5⟩
  · split at a3
    · rename_i b p C e
      obtain ⟨b1, a3⟩ := He.ba a3
      obtain ⟨b2, b3⟩ := He.ba a3
      rw [e, of_decide_eq_true b1, of_decide_eq_true b2, of_decide_eq_true b3]
    · cases a3
  · split at a4
    · rename_i g rest e
      exact ⟨rest, by rw [e, of_decide_eq_true a4]⟩
    · cases a4
/-- C.m(e, ..), m a classmethod -/
def tCmN (C : Addr) (n : Nat) (sp : Sp) (cvs : List V) (ix : List Nat) (E : L2.St → XK) (t : TA) : TE := fun σ H Q => t σ H fun vs H1 => vs.length = n ∧ sp (perm ix ((.ref C :: vs) ++ (cvs ++ []))) H1 Q (E σ)
section
variable {X : Cx} {K : PySem.W.Frag} {cx : CXT} {cn m x qual : Str} {st : Stmt} {dvs : List V} {kwl : List (Str × V)} {k j n : Nat} {ps : List Str} {c : ASp} {cvs : List V} {ix : List Nat} {E : L2.St → XK} {o e : Expr} {es : List Expr} {t : TA} {pos apos : Pos} {pl : Sem Bool}
theorem run_cmS {pins : List (Addr × Obj)} {σ : L2.St} {H : Hp} {s : Shared} {Q : VK} {us : List Value} {vs : List V} {E : XK} {q g C : Addr} {fd : FuncData} {sp : Sp} {gg : List Value → List Value → List Value} {gV : List V → List V → List V} (F : FnOk X.prog X.w X.K X.mg X.base cx k g fd ps sp) (hr : Room k X.A) (hb : KBn X.K fd ps (n + 1) [] gg gV)
    (hx : PassesAt cx X σ E) (I : Inv X ((q, PySem.W.methodObj (.ref g) (.ref C)) :: pins) σ H s) (r : Vals vs us) (l1 : vs.length = n) (h : sp (gV (.ref C :: vs) []) H Q E) : wpAny (model X.prog X.w) X.A (call (.ref q) us) (EP X pins σ Q) X.xe s := by
  have z : wpAny (model X.prog X.w) X.A (call (.ref q) us) (EP X ((q, PySem.W.methodObj (.ref g) (.ref C)) :: pins) σ Q) X.xe s := by
    have r1 : Vals (V.ref C :: vs) (Value.ref C :: us) := .cons rfl r
    have n1 : (Value.ref C :: us).length = n + 1 := by
      rw [List.length_cons, ← r.length, l1]
    refine wpAny_call (PySem.W.method_call (ClX.pin_at I) (codeAny_mono (F.run X.A X.stack s H ⟨.ref C :: us, []⟩ (gg (.ref C :: us) []) (gV (.ref C :: vs) []) Q E hr I.env0 (hb.to s (.ref C :: us) [] I.kIn n1 rfl) (hb.rel r1 .nil) h) fun r s' hq => ?_))
    match r, hq with
    | .error e, hq => exact hx _ H s e s' I hq
    | .ok (.ret u), hq => exact I.after hq
    | .ok .next, hq | .ok .brk, hq | .ok .cont, hq => exact False.elim hq
  exact thn z fun _ _ y => ClX.unpinE y
theorem ke_cm (h : X.K = K) (S : fCmt cn m K = true) (he : PE X o (tC (.ref (He.ga K cn)))) (C : Cr X.prog X.w K X.mg X.base cx (cn, some m) x qual st dvs kwl k ps c) (hr : Room j X.A) (hj : k ≤ j) (hb : ∀ fd, FunB K x qual (defArgs st) (defBody st) (defScope st) dvs kwl fd → KBp K fd ps (n + 1) [] cvs ix) (hx : ∀ σ, PassesAt cx X σ (E σ))
    (ha : PA X (e :: es) t)
    (hst : starEach (e :: es) X.env = (false, eval e X.env) :: starEach es X.env := by rfl) (hpl : (backTo pos (starEach es X.env)).any (·.1) = false := by rfl)
    (ht : eval (.Call (.Attribute o m apos) (e :: es) [] pos) X.env = (do
      let ov ← eval o X.env
      standAt apos.atName
      let (f, first) ← holding [ov] (getMethod ov m pl)
      callWith pos f first (backTo pos (starEach (e :: es) X.env)) (backToKw pos (keywordEach [] X.env))) := by rfl) :
    PE X (.Call (.Attribute o m apos) (e :: es) [] pos) (tCmN (He.ga K cn) n (spA K c) cvs ix E t) := by
  subst h
  obtain ⟨r, cm⟩ := cmt_ok S
  obtain ⟨fd, F, B, kp⟩ := C.ex
  obtain ⟨cs, hb⟩ := hb fd B
  refine ⟨fun pins s σ H Q I h => ?_⟩
  refine PySem.W.methodCall_KW (pl := pl) (thn (he.run pins s σ H (fun v H' => v = .ref (He.ga X.K cn) ∧ H' = H) I ⟨rfl, rfl⟩) fun u s1 ⟨v, H1, I1, rx, ev, eh⟩ => ?_) ht
  subst ev
  subst eh
  obtain rfl : u = Value.ref (He.ga X.K cn) := rx
  refine ClX.getmethcm_ok I1 r cm fun s2 I2 => ?_
  refine ClX.callwith_cm I2 (ClX.base_none I1 (Nat.le_refl _)) cm.fi (thn (ha.run pos _ s2 σ _ _ I2 h) fun us s3 ⟨vs, H2, I3, rv, l1, q2⟩ => ⟨⟨ClX.pin_at I3, I3.kIn⟩, ?_⟩) hst hpl
  exact run_cmS F (hr.mono hj) hb (hx σ) I3 rv l1 q2
end
section
variable {J : Jx} {Γ : Ga} {M : Ms} {P : Ent → Ms → Prop} {t : TA} {C : Addr} {n : Nat} {c : ASp} {cvs : List V} {ces : List Ent} {ix : List Nat}
def CmK (C : Addr) (n : Nat) (c : ASp) (ces : List Ent) (ix : List Nat) (P : Ent → Ms → Prop) (X : Xa) (es : List Ent) (M : Ms) : Prop := es.length = n ∧ Fr c (perm ix ((.g C :: es) ++ (ces ++ []))) M P X
theorem ex_cm {X : Xa} {es args : List Ent} (h1 : es.length = n) (h3 : perm ix ((Ent.g C :: es) ++ (ces ++ [])) = args) (p : Fr c args M P X) : CmK C n c ces ix P X es M := ⟨h1, by rw [h3]; exact p⟩
theorem w_cm {E : L2.St → XK} {X : Ga → Xa} (l : Lets J E X) (hd : CVs cvs ces) (h : WA J t Γ M (CmK C n c ces ix P (X Γ))) : Wx J (tCmN C n (spA J.K c) cvs ix E t) Γ M P := fun F Z σ H en mm x Q q =>
  h F Z σ H en mm x _ fun vs F1 H1 es M1 s1 m1 r1 ⟨l1, h2⟩ =>
    ⟨r1.length.trans l1, fr_sp (J := J) (E := E σ) h2 (perm_paired (paired_append (show REs J.K F1 (V.ref C :: vs) (Ent.g C :: es) from .cons rfl r1) (paired_append (hd J.K F1) (show REs J.K F1 [] [] from .nil))) ix) m1 (l.xr (x.mono s1) (en.mono s1)) fun v F' H' e M' s' m' r p => q v F' H' e M' (s1.trans s') m' r p⟩
end
/-! ## x is y, where x may be an int -/
abbrev rIsV : R2 := rOr rIsU (fun x y H Q => ∃ (i : Int) (b : Bool), x = .int i ∧ y = .bl b ∧ Q (.bl false) H)
theorem op_isI {X : Cx} : OpR X (compareOp .Is) (fun x y H Q => ∃ (i : Int) (b : Bool), x = .int i ∧ y = .bl b ∧ Q (.bl false) H) := by
  intro pins s σ H x y v u Q I rx ry h
  obtain ⟨a, b, rfl, rfl, q⟩ := h
  obtain ⟨t, rfl⟩ := rx
  cases (show u = Value.bool b from ry)
  exact wpAny_is_other rfl (fun z => nomatch z) ⟨.bl false, H, I, rfl, q⟩
theorem op_isV {X : Cx} : OpR X (compareOp .Is) rIsV := op_or2 op_isU op_isI
section
variable {J : Jx} {M : Ms} {P : Ent → Ms → Prop} {x : Ent}
theorem o_isVN (p : P (.d (.bool (isN x))) M) : O2 J rIsV x (.d .none) M P := o_l (o_isNu p)
theorem o_isVB {a b : Bool} (p : P (.d (.bool (decide (a = b)))) M) : O2 J rIsV (.d (.bool a)) (.d (.bool b)) M P := o_l (o_isB p)
theorem o_isVI {i : Int} {b : Bool} (p : P (.d (.bool false)) M) : O2 J rIsV (.d (.int i)) (.d (.bool b)) M P := o_r fun F Z H v u m xr r1 r2 Q q => by
  cases r1
  cases r2
  exact ⟨i, b, rfl, rfl, q _ F H (.d (.bool _)) M (Same.refl F) m (Rp.bl _) p⟩
end
/-! ## zip and enumerate, for the steps -/
abbrev zipE (ds es : List PyData) : List Ent := (ds.zip es).map fun p => Ent.d (.tuple [p.1, p.2])
def ZipK (P : List Ent → (Ms → Prop) → Ms → Prop) (xs : List Ent) (M1 : Ms) : Prop := ∃ ds es, xs = [.d (.list ds), .d (.list es)] ∧ P (zipE ds es) GT0 M1
def EnumK (P : List Ent → (Ms → Prop) → Ms → Prop) (xs : List Ent) (M1 : Ms) : Prop := ∃ ds, xs = [.d (.list ds)] ∧ P (zipE ((List.range ds.length).map fun (i : Nat) => PyData.int (i : Int)) ds) GT0 M1
section
variable {J : Jx} {Γ : Ga} {M : Ms} {P : List Ent → (Ms → Prop) → Ms → Prop} {ta : TA} {ds es : List PyData}
theorem wi_zipK (h : WA J ta Γ M (ZipK P)) : WI J (iZip J.K ta) Γ M P := wi_zip h
theorem wi_enumK (h : WA J ta Γ M (EnumK P)) : WI J (iEnum J.K ta) Γ M P := wi_enum h
theorem ex_zip (p : P (zipE ds es) GT0 M) : ZipK P [.d (.list ds), .d (.list es)] M := ⟨ds, es, rfl, p⟩
theorem ex_enum (p : P (zipE ((List.range ds.length).map fun (i : Nat) => PyData.int (i : Int)) ds) GT0 M) : EnumK P [.d (.list ds)] M := ⟨ds, rfl, p⟩
end
end Z
set_option Elab.async false
set_option linter.all false
set_option maxRecDepth 100000
set_option maxHeartbeats 4000000
namespace Z
open PySem PySem.Spec L2
/-! ## how any def binds -/
def okKw (allow : Str → Bool) : List Str → List Str → Bool
  | _, [] => true
  | seen, k :: r => allow k && (!seen.contains k && okKw allow (seen ++ [k]) r)
def fillP (s : List (Str × Value)) : List (Str × Value) → List (Str × Value)
  | [] => s
  | q :: r => if (s.lookup q.1).isNone = true then fillP (s ++ [q]) r else fillP s r
def fillK (val : Str → Option Value) (s : List (Str × Value)) : List Str → List (Str × Value)
  | [] => s
  | n :: r => if (s.lookup n).isNone = true then (match val n with
    | some v => fillK val (s ++ [(n, v)]) r
    | none => fillK val s r) else fillK val s r
theorem lookup_keys {s : List (Str × Value)} {n : Str} : (s.lookup n).isSome = (s.map (·.1)).contains n := by
  induction s with
  | nil => rfl
  | cons q r ih =>
    obtain ⟨a, b⟩ := q
    rw [List.lookup_cons, List.map_cons, List.contains_cons]
    cases e : n == a with
    | true => simp
    | false => simpa using ih
theorem loop1 {allow : Str → Bool} {f : Str × Value → List (Str × Value) × List (Str × Value) → Sem (ForInStep (List (Str × Value) × List (Str × Value)))}
    (hf : ∀ x s, allow x.1 = true → (s.1.lookup x.1).isSome = false → f x s = pure (.yield (s.1 ++ [(x.1, x.2)], s.2))) : ∀ (kw : List (Str × Value)) (s ex : List (Str × Value)), okKw allow (s.map (·.1)) (kw.map (·.1)) = true → forIn kw (s, ex) f = (pure (s ++ kw, ex) : Sem _)
  | [], s, ex, _ => by simp
  | x :: r, s, ex, h => by
    rw [List.map_cons] at h
    unfold okKw at h
    obtain ⟨h1, h⟩ := Bool.and_eq_true_iff.mp h
    obtain ⟨h2, h3⟩ := Bool.and_eq_true_iff.mp h
    rw [List.forIn_cons, hf x (s, ex) h1 (by rw [lookup_keys]; simpa using h2), pure_bind]
    dsimp only
    rw [loop1 hf r (s ++ [(x.1, x.2)]) ex (by rw [List.map_append]; exact h3)]
    simp
theorem loop3 : ∀ (zs s : List (Str × Value)), (forIn zs s fun x s => if (List.lookup x.1 s).isNone = true then pure (ForInStep.yield (s ++ [(x.1, x.2)])) else pure (ForInStep.yield s)) = (pure (fillP s zs) : Sem _)
  | [], s => by simp [fillP]
  | x :: r, s => by
    rw [List.forIn_cons]
    unfold fillP
    split
    · rw [pure_bind]
      exact loop3 r (s ++ [x])
    · rw [pure_bind]
      exact loop3 r s
theorem loop4 {K : PySem.W.Frag} {M : Model} {h : Heap} {kV : Value} {val : Str → Option Value} (X : K.In h) : ∀ (kwo : List Str) (s : List (Str × Value)), (∀ n ∈ kwo, (s.lookup n).isNone = true → ∃ D v, kV = .ref D ∧ val n = some v ∧ PySem.W.nsIn K D n = some (some v)) →
    PySem.W.Looks M h ((forIn kwo (s, ([] : List Str)) fun (name : Str) (s : List (Str × Value) × List Str) => if (List.lookup name s.1).isNone = true then (match kV with
      | Value.ref d => ((do
        let dflt ← (nsGet d name : Sem (Option Value))
        match dflt with
          | some v => pure (ForInStep.yield (s.1 ++ [(name, v)], s.2))
          | none => pure (ForInStep.yield (s.1, s.2 ++ [name]))) : Sem (ForInStep (List (Str × Value) × List Str)))
      | x => (do
        let dflt ← (pure none : Sem (Option Value))
        match dflt with
          | some v => pure (ForInStep.yield (s.1 ++ [(name, v)], s.2))
          | none => pure (ForInStep.yield (s.1, s.2 ++ [name])))) else pure (ForInStep.yield (s.1, s.2)) : Sem (List (Str × Value) × List Str))) (fillK val s kwo, [])
  | [], s, _ => PySem.W.Looks.of_pure (by simp [fillK])
  | n :: r, s, hk => by
    rw [List.forIn_cons]
    unfold fillK
    by_cases e : (s.lookup n).isNone = true
    · obtain ⟨D, v, rfl, ev, en⟩ := hk n (List.mem_cons_self ..) e
      rw [if_pos e, if_pos e, ev]
      dsimp only
      rw [bind_assoc]
      refine (PySem.W.looks_nsIn X en).andThen ?_
      dsimp only
      rw [pure_bind]
      refine loop4 X r (s ++ [(n, v)]) fun m hm hn => hk m (List.mem_cons_of_mem _ hm) ?_
      rw [List.lookup_append] at hn
      cases q : List.lookup m s with
      | none => rfl
      | some _ => rw [q] at hn; exact hn
    · rw [if_neg e, if_neg e, pure_bind]
      exact loop4 X r s fun m hm hn => hk m (List.mem_cons_of_mem _ hm) hn

def posN (p : Arguments) : List Str := p.posonlyargs.map (·.arg) ++ p.args.map (·.arg)
def kwoN (p : Arguments) : List Str := p.kwonlyargs.map (·.arg)
def bindF (pos kwo : List Str) (us : List Value) (kw : List (Str × Value)) (its : List Value) (val : Str → Option Value) : List (Str × Value) :=
  let d := its.drop (its.length - pos.length)
  let s3 := fillK val (fillP (pos.zip us ++ kw) ((pos.drop (pos.length - d.length)).zip d)) kwo
  (pos ++ kwo).filterMap fun n => (s3.lookup n).map (n, ·)
def okBn (p : Arguments) (n : Nat) (ks : List Str) (nd : Nat) (kwn : List Str) : Bool :=
  let pos := posN p
  let kwo := kwoN p
  let seen := pos.take n ++ ks
  p.vararg.isNone && (p.kwarg.isNone && (decide (n ≤ pos.length) && (okKw (fun k => (p.args.map (·.arg)).contains k || kwo.contains k) (pos.take n) ks &&
    ((pos.take (pos.length - (nd - (nd - pos.length)))).all (fun n => seen.contains n) && kwo.all fun n => seen.contains n || kwn.contains n))))
theorem fillP_old {s : List (Str × Value)} {n : Str} : ∀ {zs : List (Str × Value)}, ((fillP s zs).lookup n).isNone = true → (s.lookup n).isNone = true := by
  intro zs
  induction zs generalizing s with
  | nil => exact id
  | cons q r ih =>
    unfold fillP
    split
    · intro h
      have h2 := ih h
      rw [List.lookup_append] at h2
      cases e : List.lookup n s with
      | none => rfl
      | some _ => rw [e] at h2; exact h2
    · exact ih
theorem zip_keys {α β : Type} : ∀ (as : List α) (bs : List β), (as.zip bs).map (·.1) = as.take bs.length
  | [], bs => by simp
  | a :: as, [] => rfl
  | a :: as, b :: bs => by
    rw [List.zip_cons_cons, List.map_cons, List.length_cons, List.take_succ_cons, zip_keys as bs]
theorem bind_any {K : PySem.W.Frag} {M : Model} {h : Heap} {fd : FuncData} {us : List Value} {kw : List (Str × Value)} {od : Option (Array Value)} {val : Str → Option Value} {kwn : List Str} (X : K.In h)
    (hd : PySem.W.Looks M h (seqItems? fd.defaults) od) (ok : okBn fd.params us.length (kw.map (·.1)) (od.getD #[]).toList.length kwn = true)
    (hk : ∀ n ∈ kwn, ∃ D v, fd.kwdefaults = .ref D ∧ val n = some v ∧ PySem.W.nsIn K D n = some (some v)) :
    PySem.W.Looks M h (bindArgs fd ⟨us, kw⟩) (bindF (posN fd.params) (kwoN fd.params) us kw (od.getD #[]).toList val) := by
  unfold okBn at ok
  dsimp only at ok
  obtain ⟨c1, ok⟩ := Bool.and_eq_true_iff.mp ok
  obtain ⟨c2, ok⟩ := Bool.and_eq_true_iff.mp ok
  obtain ⟨c3, ok⟩ := Bool.and_eq_true_iff.mp ok
  obtain ⟨c4, ok⟩ := Bool.and_eq_true_iff.mp ok
  obtain ⟨c5, c6⟩ := Bool.and_eq_true_iff.mp ok
  have c1 := Option.isNone_iff_eq_none.mp c1
  have c2 := Option.isNone_iff_eq_none.mp c2
  have c3 := of_decide_eq_true c3
  have ek : ((posN fd.params).zip us).map (·.1) = (posN fd.params).take us.length := zip_keys _ _
  unfold bindArgs
  dsimp only
  rw [loop1 (allow := fun k => (fd.params.args.map (·.arg)).contains k || (fd.params.kwonlyargs.map (·.arg)).contains k) (fun x s h1 h2 => by
    rw [if_pos h1, if_neg (by rw [h2]; decide)]) kw _ _ (by rw [show List.map (fun x => x.arg) fd.params.posonlyargs ++ List.map (fun x => x.arg) fd.params.args = posN fd.params from rfl, ek]; exact c4), pure_bind]
  dsimp only
  refine hd.andThen ?_
  have e1 : ¬ (decide (us.length > (List.map (fun x => x.arg) fd.params.posonlyargs ++ List.map (fun x => x.arg) fd.params.args).length) && fd.params.vararg.isNone) = true := by
    intro h
    have := of_decide_eq_true (Bool.and_eq_true_iff.mp h).1
    have c3 : us.length ≤ (List.map (fun x => x.arg) fd.params.posonlyargs ++ List.map (fun x => x.arg) fd.params.args).length := c3
    omega
  rw [if_neg e1]
  rw [if_neg (by
    rw [show List.map (fun x => x.arg) fd.params.posonlyargs ++ List.map (fun x => x.arg) fd.params.args = posN fd.params from rfl]
    rw [List.filter_eq_nil_iff.mpr (fun n hn => ?hn)]
    · decide
    case hn =>
      rw [List.length_drop] at hn
      have h1 := List.all_eq_true.mp c5 n hn
      rw [← ek, ← List.map_append, ← lookup_keys] at h1
      intro h2
      cases e : List.lookup n ((posN fd.params).zip us ++ kw) with
      | none => rw [e] at h1; cases h1
      | some _ => rw [e] at h2; cases h2)]
  rw [loop3, pure_bind]
  refine PySem.W.Looks.andThen (loop4 (val := val) X (kwoN fd.params) _ fun n hn hs => ?hl) ?_
  case hl =>
    have h1 := List.all_eq_true.mp c6 n hn
    rw [Bool.or_eq_true, ← ek, ← List.map_append, ← lookup_keys] at h1
    rcases h1 with h1 | h1
    · have h2 := fillP_old hs
      rw [show List.map (fun x => x.arg) fd.params.posonlyargs ++ List.map (fun x => x.arg) fd.params.args = posN fd.params from rfl] at h2
      cases e : List.lookup n ((posN fd.params).zip us ++ kw) with
      | none => rw [e] at h1; cases h1
      | some _ => rw [e] at h2; cases h2
    · exact hk n (by simpa using h1)
  dsimp only
  rw [if_neg (by decide), c1, c2]
  exact PySem.W.Looks.of_pure rfl

section
variable {K : PySem.W.Frag} {x qual : Str} {params : Arguments} {body : List Stmt} {scope : Scope} {dvs : List V} {kws : List (Str × V)} {fd : FuncData} {ps : List Str}
theorem lookup_zip {β : Type} : ∀ {ks : List Str} {vs : List β} {n : Str}, ks.length = vs.length → n ∈ ks → ∃ v, (ks.zip vs).lookup n = some v ∧ (n, v) ∈ ks.zip vs
  | [], vs, n, _, h => (nomatch h)
  | k :: ks, [], n, e, h => (nomatch e)
  | k :: ks, v :: vs, n, e, h => by
    rw [List.zip_cons_cons, List.lookup_cons]
    cases q : n == k with
    | true => exact ⟨v, rfl, by rw [beq_iff_eq.mp q]; exact List.mem_cons_self ..⟩
    | false =>
      have h2 : n ∈ ks := by
        rcases List.mem_cons.mp h with e2 | h2
        · rw [e2] at q; simp at q
        · exact h2
      obtain ⟨w, h3, h4⟩ := lookup_zip (vs := vs) (Nat.succ.inj e) h2
      exact ⟨w, h3, List.mem_cons_of_mem _ h4⟩
theorem perm_len {α β : Type} {xs : List α} {ys : List β} (h : xs.length = ys.length) : ∀ ix : List Nat, (perm ix xs).length = (perm ix ys).length
  | [] => rfl
  | i :: ix => by
    unfold perm
    rw [List.filterMap_cons, List.filterMap_cons]
    by_cases e : i < xs.length
    · rw [List.getElem?_eq_getElem e, List.getElem?_eq_getElem (h ▸ e)]
      exact congrArg Nat.succ (perm_len h ix)
    · rw [List.getElem?_eq_none (by omega), List.getElem?_eq_none (by omega)]
      exact perm_len h ix
/-- any call: n values by place, those named ks; of the defaults (by place, then by keyword) those at jx are taken -/
theorem kbN (F : FunB K x qual params body scope dvs kws fd) (n : Nat) (ks : List Str) (jx ix : List Nat) {cvs : List V} (hcv : cvs = perm jx (dvs ++ kws.map (·.2)))
    (ok : okBn params n ks dvs.length (kws.map (·.1)) = true)
    (h : ∀ us its mv ws : List Value, us.length = n → its.length = dvs.length → mv.length = (kws.map (·.1)).length → ws.length = ks.length →
      bindF (posN params) (kwoN params) us (ks.zip ws) its (fun m => ((kws.map (·.1)).zip mv).lookup m) = ps.zip (perm ix (us ++ (perm jx (its ++ mv) ++ ws)))) : KBp K fd ps n ks cvs ix := by
  obtain ⟨cl, dV, kV, doc, pm, an, cdv, ct, rfl, hD, hK⟩ := F.ex
  subst hcv
  have dd : ∃ (its : List Value) (od : Option (Array Value)), its.length = dvs.length ∧ Vals dvs its ∧ (od.getD #[]).toList = its ∧ ∀ (M : Model) (h : Heap), K.In h → PySem.W.Looks M h (seqItems? dV) od := by
    rcases hD with ⟨rfl, rfl⟩ | ⟨e, T, o, its, m, rfl, lT, oT, rT⟩
    · exact ⟨[], none, rfl, .nil, rfl, fun M h X => PySem.W.Looks.of_pure rfl⟩
    · refine ⟨its, some its.toArray, rT.length.symm, rT, rfl, fun M h X => ?_⟩
      have q : PySem.W.Looks M h (seqItems? (.ref T) >>= pure) (some its.toArray) := looks_items X lT oT (.of_pure rfl)
      rwa [bind_pure] at q
  have kk : ∃ mv : List Value, mv.length = (kws.map (·.1)).length ∧ Vals (kws.map (·.2)) mv ∧ ∀ m ∈ kws.map (·.1), ∃ D v, kV = .ref D ∧ ((kws.map (·.1)).zip mv).lookup m = some v ∧ PySem.W.nsIn K D m = some (some v) := by
    rcases hK with rfl | ⟨D, rfl, hq⟩
    · exact ⟨[], rfl, .nil, fun m hm => (nomatch hm)⟩
    · obtain ⟨mv, hl, rk, hks⟩ := kwd_vals (K := K) (D := D) (ms := kws) hq
      refine ⟨mv, by rw [hl, List.length_map], rk, fun m hm => ?_⟩
      obtain ⟨v, h1, h2⟩ := lookup_zip (vs := mv) (by rw [List.length_map, hl]) hm
      exact ⟨D, v, rfl, h1, hks _ h2⟩
  obtain ⟨its, od, l1, r1, e1, hd⟩ := dd
  obtain ⟨mv, l2, r2, hk⟩ := kk
  refine ⟨perm jx (its ++ mv), fun s us ws X q1 q2 => BindsTo.of_looks fun M => ?_, fun {vs us zs ws} a1 a2 => ?_⟩
  rotate_left
  · have a3 : Vals (perm jx (dvs ++ kws.map (·.2))) (perm jx (its ++ mv)) := perm_paired (r1.append r2) jx
    exact perm_paired (a1.append (a3.append a2)) ix
  have ek : (ks.zip ws).map (·.1) = ks := by
    rw [zip_keys, q2, List.take_length]
  have b := bind_any (fd := PySem.W.fnX x qual params body scope cl dV kV doc pm an cdv ct) (us := us) (kw := ks.zip ws) (val := fun m => ((kws.map (·.1)).zip mv).lookup m) (kwn := kws.map (·.1)) X (hd M _ X)
    (by rw [ek, q1, e1, l1]; exact ok) hk
  rw [e1] at b
  rw [← h us its mv ws q1 l1 l2 q2]
  exact b
end
end Z
set_option Elab.async false
set_option linter.all false
set_option maxRecDepth 100000
set_option maxHeartbeats 4000000
namespace Z
open PySem PySem.Spec L2
/-! ## a contract's goal bears a mark -/
def Ct (c : ASp) (es : List Ent) (M : Ms) (Q : Ent → Ms → Prop) (X : Xa) : Prop := c es M Q X
theorem ct_mk {c : ASp} {es : List Ent} {M : Ms} {Q : Ent → Ms → Prop} {X : Xa} (h : c es M Q X) : Ct c es M Q X := h
theorem fr0C {c : ASp} {es : List Ent} {M : Ms} {P : Ent → Ms → Prop} {X : Xa} (he : es.all isD = true) (h : Ct c es [] (Fr0 P M) (Fx0 X M)) : Fr c es M P X := fr0 he h
theorem fr1C {c : ASp} {es : List Ent} {M : Ms} {P : Ent → Ms → Prop} {X : Xa} {n : Nat} {m : Mo} (hn : M[n]? = some (some m)) (hm : flatM m = true) (he : es.all isD = true) (h : Ct c (.r 0 :: es) [some m] (Fr1 P M n) (Fx1 X M n)) : Fr c (.r n :: es) M P X := fr1 hn hm he h
theorem frRC {c : ASp} {es es' : List Ent} {M M' : Ms} {P : Ent → Ms → Prop} {X : Xa} {s : List Nat} (hs : refsOf es = s) (hd : decide s.Nodup = true) (hok : okB s M = true) (he : es.map (Ent.sel s) = es') (hM : selN s M = M') (h : Ct c es' M' (FrN P M s) (FxN X M s)) : Fr c es M P X := frR hs hd hok he hM h
end Z
set_option Elab.async false
set_option linter.all false
set_option maxRecDepth 100000
set_option maxHeartbeats 4000000
namespace Z
open PySem PySem.Spec L2
/-! ## one step, found by instances -/
class Stp (g : Prop) (h : outParam Prop) : Prop where
  go : h → g
structure SideC (a b : Prop) : Prop where
  l : a
  r : b
class GetE (l : Ga) (n : Nat) (e : outParam Ent) : Prop where
  at_ : l[n]? = some (some e)
instance gete_0 {l : Ga} {e : Ent} : GetE (some e :: l) 0 e := ⟨rfl⟩
instance gete_s {l : Ga} {o : Option Ent} {n : Nat} {e : Ent} [h : GetE l n e] : GetE (o :: l) (n + 1) e := ⟨h.at_⟩
class SetE (l : Ga) (n : Nat) (o : Option Ent) (r : outParam Ga) : Prop where
  eq : l.set n o = r
instance sete_0 {l : Ga} {o p : Option Ent} : SetE (p :: l) 0 o (o :: l) := ⟨rfl⟩
instance sete_s {l r : Ga} {o p : Option Ent} {n : Nat} [h : SetE l n o r] : SetE (p :: l) (n + 1) o (p :: r) := ⟨by rw [List.set_cons_succ, h.eq]⟩
/-- frames written out -/
class NrmE (l : Ga) (r : outParam Ga) : Prop where
  eq : l = r
instance nrme_c {l : Ga} {p : Option Ent} : NrmE (p :: l) (p :: l) := ⟨rfl⟩
instance nrme_s {l m r : Ga} {n : Nat} {o : Option Ent} [h : NrmE l m] [g : SetE m n o r] : NrmE (l.set n o) r := ⟨by rw [h.eq, g.eq]⟩
section
variable {J : Jx} {Γ : Ga} {M : Ms} {P : Ent → Ms → Prop} {ta tb tc te to ti tv td ty : TE} {K : PySem.W.Frag} {E : WX} {X : Ga → Xa} {G : Wd → Prop}
instance i_w_var {i : Nat} {e : Ent} [h : GetE Γ i e] : Stp (Wx J (tVar i) Γ M P) (P e M) := ⟨fun p => w_var h.at_ p⟩

instance i_w_int {i : Int} : Stp (Wx J (tC (.int i)) Γ M P) (P (.d (.int i)) M) := ⟨fun p => w_int p⟩
instance i_w_bl {b : Bool} : Stp (Wx J (tC (.bl b)) Γ M P) (P (.d (.bool b)) M) := ⟨fun p => w_bl p⟩
instance i_w_non  : Stp (Wx J (tC .non) Γ M P) (P (.d .none) M) := ⟨fun p => w_non p⟩
instance i_w_str {s : Str} : Stp (Wx J (tC (.str s)) Γ M P) (P (.d (.str s)) M) := ⟨fun p => w_str p⟩
instance i_w_adr {a : Addr} : Stp (Wx J (tC (.ref a)) Γ M P) (P (.g a) M) := ⟨fun p => w_adr p⟩
instance i_w_ty {n : String} : Stp (Wx J (tC (.ty n)) Γ M P) (P (.t n) M) := ⟨fun p => w_ty p⟩
instance i_w_op {r : R2} : Stp (Wx J (tOp r ta tb) Γ M P) (Wx J ta Γ M fun x M1 => Wx J tb Γ M1 fun y M2 => O2 J r x y M2 P) := ⟨fun p => w_op p⟩
instance i_w_un {r : V → Hp → VK → Prop} : Stp (Wx J (tUn r ta) Γ M P) (Wx J ta Γ M fun x M1 => O1 J r x M1 P) := ⟨fun p => w_un p⟩
instance i_w_slice {r : V → Option Int → Option Int → Hp → VK → Prop} : Stp (Wx J (tSl r te tl th) Γ M P) (Wx J te Γ M fun x M1 => WO J tl Γ M1 fun lo M2 => WO J th Γ M2 fun hi M3 => OS J r x lo hi M3 P) := ⟨fun p => w_slice p⟩
instance i_w_m1  : Stp (Wx J (tM1 r to te) Γ M P) (Wx J to Γ M fun x M1 => (∃ s, x = .d (.str s)) ∧ Wx J te Γ M1 fun y M2 => OM J r x [y] M2 P) := ⟨fun p => w_m1 p⟩
instance i_w_m0 {r : V → List V → Hp → VK → Prop} {to : TE} : Stp (Wx J (tM0 r to) Γ M P) (Wx J to Γ M fun x M1 => (∃ s, x = .d (.str s)) ∧ OM J r x [] M1 P) := ⟨fun p => w_m0 p⟩
instance i_w_bm  : Stp (Wx (Jx.mk K E X G) (tBM K T r to t) Γ M P) (Wx (Jx.mk K E X G) to Γ M fun x M1 => TyM M1 T x ∧ WA (Jx.mk K E X G) t Γ M1 fun es M2 => OM (Jx.mk K E X G) r x es M2 P) := ⟨fun p => w_bm p⟩
instance i_w_bm0  : Stp (Wx (Jx.mk K E X G) (tBM0 K T r to) Γ M P) (Wx (Jx.mk K E X G) to Γ M fun x M1 => TyM M1 T x ∧ OM (Jx.mk K E X G) r x [] M1 P) := ⟨fun p => w_bm0 p⟩
instance i_w_cint  : Stp (Wx J (tCInt n) Γ M P) (P (.d (.int n)) M) := ⟨fun p => w_cint p⟩
instance i_w_fmt  : Stp (Wx J (tFmt te) Γ M P) (Wx J te Γ M fun x M1 => FmtK P x M1) := ⟨fun p => w_fmt p⟩
instance i_w_fldS  : Stp (Wx J (tFldS Cs f ta) Γ M P) (Wx J ta Γ M fun x M1 => ∃ C fs e, OV M1 x C fs ∧ C ∈ Cs ∧ fs.lookup f = some e ∧ P e M1) := ⟨fun p => w_fldS p⟩
instance i_w_prA {Γ : Ga} {M : Ms} {P : Ent → Ms → Prop} {as : List MA} {ta : TE} : Stp (Wx (Jx.mk K E X G) (tPrA K as ta) Γ M P) (Wx (Jx.mk K E X G) ta Γ M fun x M1 => ∃ C fs, OV M1 x C fs ∧ ∃ y ∈ as, y.C = C ∧ Fr y.c [x] M1 P X0) := ⟨fun p => w_prA p⟩
end
section
variable {J : Jx} {Γ : Ga} {M : Ms} {P : Ent → Ms → Prop} {ta tb tc te to : TE} {t : TT} {K : PySem.W.Frag} {E : WX} {X : Ga → Xa} {G : Wd → Prop}
instance i_w_if  : Stp (Wx J (tIf t ta tb) Γ M P) (WT J t Γ M fun b M1 => (b = true → Wx J ta Γ M1 P) ∧ (b = false → Wx J tb Γ M1 P)) := ⟨fun p => w_if p⟩
instance i_w_andT  : Stp (Wx (Jx.mk K E X G) (tAndT K ta tb) Γ M P) (Wx (Jx.mk K E X G) ta Γ M fun x M1 => ∃ k, Tru M1 x k ∧ (k = true → Wx (Jx.mk K E X G) tb Γ M1 P) ∧ (k = false → P x M1)) := ⟨fun p => w_andT p⟩
instance i_w_orT  : Stp (Wx (Jx.mk K E X G) (tOrT K ta tb) Γ M P) (Wx (Jx.mk K E X G) ta Γ M fun x M1 => ∃ k, Tru M1 x k ∧ (k = false → Wx (Jx.mk K E X G) tb Γ M1 P) ∧ (k = true → P x M1)) := ⟨fun p => w_orT p⟩
instance i_w_notT  : Stp (Wx (Jx.mk K E X G) (tNotT K ta) Γ M P) (Wx (Jx.mk K E X G) ta Γ M fun x M1 => ∃ k, Tru M1 x k ∧ P (.d (.bool (!k))) M1) := ⟨fun p => w_notT p⟩
end
section
variable {J : Jx} {Γ : Ga} {M : Ms} {P : Ent → Ms → Prop} {A : List Ent → Ms → Prop} {ta te : TE} {t tr tk : TA} {c : ASp} {r : List V → Hp → VK → Prop} {K : PySem.W.Frag} {E : WX} {X : Ga → Xa} {G : Wd → Prop}
instance i_wa_nil  : Stp (WA J tNil Γ M A) (A [] M) := ⟨fun p => wa_nil p⟩
instance i_wa_cons  : Stp (WA J (tCons ta tr) Γ M A) (Wx J ta Γ M fun x M1 => WA J tr Γ M1 fun xs M2 => A (x :: xs) M2) := ⟨fun p => wa_cons p⟩
instance i_w_tup {t : TA} : Stp (Wx J (tTup t) Γ M P) (WA J t Γ M fun es M1 => ∃ ds, es = ds.map Ent.d ∧ ds.length ≤ sizeLine ∧ P (.d (.tuple ds)) M1) := ⟨fun p => w_tup p⟩
instance i_w_lst {t : TA} : Stp (Wx J (tLst t) Γ M P) (WA J t Γ M fun es M1 => ∃ ds, es = ds.map Ent.d ∧ ds.length ≤ sizeLine ∧ P (.d (.list ds)) M1) := ⟨fun p => w_lst p⟩
instance i_w_call  : Stp (Wx (Jx.mk K E X G) (tCallSD (spA K c) [] (fun _ => E0) t) Γ M P) (WA (Jx.mk K E X G) t Γ M fun es M1 => Fr c es M1 P X0) := ⟨fun p => w_call p⟩
instance i_w_callx  : Stp (Wx (Jx.mk K E X G) (tCallSD (spA K c) [] (WE E) t) Γ M P) (WA (Jx.mk K E X G) t Γ M fun es M1 => Fr c es M1 P (X Γ)) := ⟨fun p => w_callx p⟩
instance i_w_cb  : Stp (Wx J (tCB r t) Γ M P) (WA J t Γ M fun es M1 => ON J r es M1 P) := ⟨fun p => w_cb p⟩
end
section
variable {J : Jx} {Γ : Ga} {M : Ms} {B : Bool → Ms → Prop} {te : TE} {t u : TT} {K : PySem.W.Frag} {E : WX} {X : Ga → Xa} {G : Wd → Prop}
instance i_wt_test  : Stp (WT J (tTest te) Γ M B) (Wx J te Γ M fun x M1 => ∃ b, x = .d (.bool b) ∧ B b M1) := ⟨fun p => wt_test p⟩
instance i_wt_val  : Stp (WT J (tB te) Γ M B) (Wx J te Γ M fun x M1 => ∃ b, x = .d (.bool b) ∧ B b M1) := ⟨fun p => wt_val p⟩
instance i_wt_tru  : Stp (WT (Jx.mk K E X G) (tTru K te) Γ M B) (Wx (Jx.mk K E X G) te Γ M fun x M1 => ∃ b, Tru M1 x b ∧ B b M1) := ⟨fun p => wt_tru p⟩
instance i_wt_and  : Stp (WT J (tAnd t u) Γ M B) (WT J t Γ M fun b M1 => (b = true → WT J u Γ M1 B) ∧ (b = false → B false M1)) := ⟨fun p => wt_and p⟩
instance i_wt_or  : Stp (WT J (tOr t u) Γ M B) (WT J t Γ M fun b M1 => (b = false → WT J u Γ M1 B) ∧ (b = true → B true M1)) := ⟨fun p => wt_or p⟩
instance i_wt_not  : Stp (WT J (tNot t) Γ M B) (WT J t Γ M fun b M1 => B (!b) M1) := ⟨fun p => wt_not p⟩
instance i_wt_yes {B : Bool → Ms → Prop} : Stp (WT J tYes Γ M B) (B true M) := ⟨fun p => wt_yes p⟩
end
section
variable {J : Jx} {Γ : Ga} {M : Ms} {D : Nd} {te : TE} {tt : TT} {t u : TS} {K : PySem.W.Frag} {E : WX} {X : Ga → Xa} {G : Wd → Prop}
instance (priority := high) i_nrm {Γ' : Ga} {n : Nat} {o : Option Ent} [h : NrmE (Γ.set n o) Γ'] : Stp (Sx J t D (Γ.set n o) M) (Sx J t D Γ' M) := ⟨fun p => by rw [h.eq]; exact p⟩
instance i_s_seq  : Stp (Sx J (tSeq t u) D Γ M) (Sx J t { D with nx := fun Γ' M' => Sx J u D Γ' M' } Γ M) := ⟨fun p => s_seq p⟩
instance i_s_set {i : Nat} : Stp (Sx J (tAsg te (gName i)) D Γ M) (Wx J te Γ M fun e M1 => D.nx (Γ.set i (some e)) M1) := ⟨fun p => s_set p⟩
instance i_s_retN  : Stp (Sx J tRetN D Γ M) (D.rt (.d .none) M) := ⟨fun p => s_retN p⟩
instance i_s_if  : Stp (Sx J (tIfS tt t u) D Γ M) (WT J tt Γ M fun b M1 => (b = true → Sx J t D Γ M1) ∧ (b = false → Sx J u D Γ M1)) := ⟨fun p => s_if p⟩
instance i_s_drop  : Stp (Sx J (tDrop te) D Γ M) (Wx J te Γ M fun _ M1 => D.nx Γ M1) := ⟨fun p => s_drop p⟩
instance i_s_next  : Stp (Sx J tNext D Γ M) (D.nx Γ M) := ⟨fun p => s_next p⟩
instance i_s_break  : Stp (Sx J tBreak D Γ M) (D.bk Γ M) := ⟨fun p => s_break p⟩
instance i_s_cont  : Stp (Sx J tCont D Γ M) (D.ct Γ M) := ⟨fun p => s_cont p⟩
end
section
variable {J : Jx} {M : Ms} {P : Ent → Ms → Prop} {x y : Ent} {i j : Int} {R : Bool → Prop} {K : PySem.W.Frag} {E : WX} {X : Ga → Xa} {G : Wd → Prop}
instance i_o_add {i j : Int} : Stp (O2 (Jx.mk K E X G) (rAddU K) (.d (.int i)) (.d (.int j)) M P) (P (.d (.int (i + j))) M) := ⟨fun p => o_add p⟩
instance i_o_addS {i j : Str} : Stp (O2 (Jx.mk K E X G) (rAddU K) (.d (.str i)) (.d (.str j)) M P) (SideC (i.length + j.length ≤ sizeLine) (P (.d (.str (i ++ j))) M)) := ⟨fun p => o_addS p.l p.r⟩
instance i_o_sub {i j : Int} : Stp (O2 J rSubI (.d (.int i)) (.d (.int j)) M P) (P (.d (.int (i - j))) M) := ⟨fun p => o_sub p⟩
instance i_o_mulIv {i j : Int} : Stp (O2 (Jx.mk K E X G) (rMulV K) (.d (.int i)) (.d (.int j)) M P) (SideC (CMul i j) (P (.d (.int (i * j))) M)) := ⟨fun p => o_mulIv p.l p.r⟩
instance i_o_mulSv {s : Str} {n : Int} : Stp (O2 (Jx.mk K E X G) (rMulV K) (.d (.str s)) (.d (.int n)) M P) (SideC (MulOk s n) (P (.d (.str (Txt.mul s n))) M)) := ⟨fun p => o_mulSv p.l p.r⟩
instance i_o_pow {i j : Int} : Stp (O2 J (rI CPow fun i j => .int (i ^ j.toNat)) (.d (.int i)) (.d (.int j)) M P) (SideC (CPow i j) (P (.d (.int (i ^ j.toNat))) M)) := ⟨fun p => o_pow p.l p.r⟩
instance i_o_lt {i j : Int} : Stp (O2 J rLtU (.d (.int i)) (.d (.int j)) M P) (P (.d (.bool (decide (i < j)))) M) := ⟨fun p => o_lt p⟩
instance i_o_le {i j : Int} : Stp (O2 J rLeU (.d (.int i)) (.d (.int j)) M P) (P (.d (.bool (decide (i ≤ j)))) M) := ⟨fun p => o_le p⟩
instance i_o_gt {i j : Int} : Stp (O2 J rGtU (.d (.int i)) (.d (.int j)) M P) (P (.d (.bool (decide (j < i)))) M) := ⟨fun p => o_gt p⟩
instance i_o_ge {i j : Int} : Stp (O2 J rGeU (.d (.int i)) (.d (.int j)) M P) (P (.d (.bool (decide (j ≤ i)))) M) := ⟨fun p => o_ge p⟩
instance i_o_ltS {i j : Str} : Stp (O2 J rLtU (.d (.str i)) (.d (.str j)) M P) (P (.d (.bool (decide (i.cps.toList < j.cps.toList)))) M) := ⟨fun p => o_ltS p⟩
instance i_o_leS {i j : Str} : Stp (O2 J rLeU (.d (.str i)) (.d (.str j)) M P) (P (.d (.bool (!decide (j.cps.toList < i.cps.toList)))) M) := ⟨fun p => o_leS p⟩
instance i_o_gtS {i j : Str} : Stp (O2 J rGtU (.d (.str i)) (.d (.str j)) M P) (P (.d (.bool (decide (j.cps.toList < i.cps.toList)))) M) := ⟨fun p => o_gtS p⟩
instance i_o_eq {i j : Int} : Stp (O2 (Jx.mk K E X G) (rEqU K) (.d (.int i)) (.d (.int j)) M P) (P (.d (.bool (decide (i = j)))) M) := ⟨fun p => o_eq p⟩
instance i_o_ne {i j : Int} : Stp (O2 (Jx.mk K E X G) (rNeU K) (.d (.int i)) (.d (.int j)) M P) (P (.d (.bool (!decide (i = j)))) M) := ⟨fun p => o_ne p⟩
instance i_o_eqT {i j : Str} : Stp (O2 (Jx.mk K E X G) (rEqU K) (.d (.str i)) (.d (.str j)) M P) (P (.d (.bool (decide (i = j)))) M) := ⟨fun p => o_eqT p⟩
instance i_o_neT {i j : Str} : Stp (O2 (Jx.mk K E X G) (rNeU K) (.d (.str i)) (.d (.str j)) M P) (P (.d (.bool (!decide (i = j)))) M) := ⟨fun p => o_neT p⟩
instance i_o_eqB {i j : Bool} : Stp (O2 (Jx.mk K E X G) (rEqU K) (.d (.bool i)) (.d (.bool j)) M P) (P (.d (.bool (decide (i = j)))) M) := ⟨fun p => o_eqB p⟩
instance i_o_neB {M : Ms} {P : Ent → Ms → Prop} {i j : Bool} : Stp (O2 (Jx.mk K E X G) (rNeU K) (.d (.bool i)) (.d (.bool j)) M P) (P (.d (.bool (!decide (i = j)))) M) := ⟨fun p => o_neB p⟩
instance i_o_isNu  : Stp (O2 J rIsU x (.d .none) M P) (P (.d (.bool (isN x))) M) := ⟨fun p => o_isNu p⟩
instance i_o_isB {a b : Bool} : Stp (O2 J rIsU (.d (.bool a)) (.d (.bool b)) M P) (P (.d (.bool (decide (a = b)))) M) := ⟨fun p => o_isB p⟩
instance i_o_notN  : Stp (O2 J rNotN x (.d .none) M P) (P (.d (.bool (!isN x))) M) := ⟨fun p => o_notN p⟩
instance i_o_isNotNu  : Stp (O2 J rIsNotU x (.d .none) M P) (P (.d (.bool (!isN x))) M) := ⟨fun p => o_isNotNu p⟩
instance i_o_isNotB {a b : Bool} : Stp (O2 J rIsNotU (.d (.bool a)) (.d (.bool b)) M P) (P (.d (.bool (!decide (a = b)))) M) := ⟨fun p => o_isNotB p⟩
instance i_o_isVN  : Stp (O2 J rIsV x (.d .none) M P) (P (.d (.bool (isN x))) M) := ⟨fun p => o_isVN p⟩
instance i_o_isVB {a b : Bool} : Stp (O2 J rIsV (.d (.bool a)) (.d (.bool b)) M P) (P (.d (.bool (decide (a = b)))) M) := ⟨fun p => o_isVB p⟩
instance i_o_isVI {i : Int} {b : Bool} : Stp (O2 J rIsV (.d (.int i)) (.d (.bool b)) M P) (P (.d (.bool false)) M) := ⟨fun p => o_isVI p⟩
instance i_o_inC {c : Nat} {z : Str} : Stp (O2 (Jx.mk K E X G) (rInU K) (.d (.str ⟨#[c]⟩)) (.d (.str z)) M P) (P (.d (.bool (decide (c ∈ z.cps.toList)))) M) := ⟨fun p => o_inC p⟩
instance i_o_notInC {c : Nat} {z : Str} : Stp (O2 (Jx.mk K E X G) (rNotInU K) (.d (.str ⟨#[c]⟩)) (.d (.str z)) M P) (P (.d (.bool (!decide (c ∈ z.cps.toList)))) M) := ⟨fun p => o_notInC p⟩
instance i_o_modP  : Stp (O2 J (rI (fun _ j => j ≠ 0) fun i j => .int (i.fmod j)) (.d (.int i)) (.d (.int j)) M P) (SideC (0 < j) (P (.d (.int (i % j))) M)) := ⟨fun p => o_modP p.l p.r⟩
instance i_o_fdivP  : Stp (O2 J (rI CDivN fun i j => .int (i.fdiv j)) (.d (.int i)) (.d (.int j)) M P) (SideC (0 < j) (SideC (j ≤ 1000000000) (P (.d (.int (i / j))) M))) := ⟨fun p => o_fdivP p.l p.r.l p.r.r⟩
instance i_o_mulI {i j : Int} : Stp (O2 J rMulU (.d (.int i)) (.d (.int j)) M P) (SideC (CMul i j) (P (.d (.int (i * j))) M)) := ⟨fun p => o_mulI p.l p.r⟩
instance i_n_int {i : Int} : Stp (ON J rIntU [.d (.int i)] M P) (P (.d (.int i)) M) := ⟨fun p => n_int p⟩
instance i_n_lenS {s : Str} : Stp (ON (Jx.mk K E X G) (rLenU K) [.d (.str s)] M P) (SideC (s.length ≤ sizeLine) (P (.d (.int (s.length : Int))) M)) := ⟨fun p => n_lenS p.l p.r⟩
instance i_n_lenT {ds : List PyData} : Stp (ON (Jx.mk K E X G) (rLenU K) [.d (.tuple ds)] M P) (P (.d (.int (ds.length : Int))) M) := ⟨fun p => n_lenT p⟩
instance i_n_abs {i : Int} : Stp (ON J (fun xs H Q => ∃ i, xs = [.int i] ∧ Q (.int (if i < 0 then -i else i)) H) [.d (.int i)] M P) (P (.d (.int (if i < 0 then -i else i))) M) := ⟨fun p => n_abs p⟩
instance i_n_max2 {i j : Int} : Stp (ON J (fun xs H Q => ∃ i j, xs = [.int i, .int j] ∧ Q (.int (if j > i then j else i)) H) [.d (.int i), .d (.int j)] M P) (P (.d (.int (if j > i then j else i))) M) := ⟨fun p => n_max2 p⟩
instance i_n_min2 {i j : Int} : Stp (ON J (fun xs H Q => ∃ i j, xs = [.int i, .int j] ∧ Q (.int (if j < i then j else i)) H) [.d (.int i), .d (.int j)] M P) (P (.d (.int (if j < i then j else i))) M) := ⟨fun p => n_min2 p⟩
instance i_n_ord {c : Nat} : Stp (ON J (fun xs H Q => ∃ x, xs = [.str x] ∧ x.length = 1 ∧ Q (.int (x.cps.getD 0 0 : Nat)) H) [.d (.str ⟨#[c]⟩)] M P) (P (.d (.int (c : Int))) M) := ⟨fun p => n_ord p⟩
instance i_tr_b {b : Bool} : Stp (∃ k, Tru M (.d (.bool b)) k ∧ R k) (R b) := ⟨fun p => tr_b p⟩
instance i_tr_i {i : Int} : Stp (∃ k, Tru M (.d (.int i)) k ∧ R k) (R (i != 0)) := ⟨fun p => tr_i p⟩
instance i_tr_n  : Stp (∃ k, Tru M (.d .none) k ∧ R k) (R false) := ⟨fun p => tr_n p⟩
instance i_tr_s {s : Str} : Stp (∃ k, Tru M (.d (.str s)) k ∧ R k) (SideC (s.length ≤ sizeLine) (R ((s.length : Int) != 0))) := ⟨fun p => tr_s p.l p.r⟩
instance i_tr_l {xs : List PyData} : Stp (∃ k, Tru M (.d (.list xs)) k ∧ R k) (R (!xs.isEmpty)) := ⟨fun p => tr_l p⟩
instance i_tr_t {xs : List PyData} : Stp (∃ k, Tru M (.d (.tuple xs)) k ∧ R k) (R (!xs.isEmpty)) := ⟨fun p => tr_t p⟩
instance i_tr_w {xs : List PyData} : Stp (∃ k, Tru M (.w xs) k ∧ R k) (R (!xs.isEmpty)) := ⟨fun p => tr_w p⟩
instance i_exb {b : Bool} {Q : Bool → Prop} : Stp (∃ k, Ent.d (.bool b) = .d (.bool k) ∧ Q k) (Q b) := ⟨fun p => ⟨b, rfl, p⟩⟩
instance i_exi {b : Int} {Q : Int → Prop} : Stp (∃ k, Ent.d (.int b) = .d (.int k) ∧ Q k) (Q b) := ⟨fun p => ⟨b, rfl, p⟩⟩
instance i_exs {b : Str} {Q : Prop} : Stp ((∃ k, Ent.d (.str b) = .d (.str k)) ∧ Q) Q := ⟨fun p => ⟨⟨b, rfl⟩, p⟩⟩
instance i_exy {b : Str} {Q : Str → Prop} : Stp (∃ k, Ent.d (.str b) = .d (.str k) ∧ Q k) (Q b) := ⟨fun p => ⟨b, rfl, p⟩⟩
end
end Z
set_option Elab.async false
set_option linter.all false
set_option maxRecDepth 100000
set_option maxHeartbeats 4000000
namespace Z
open PySem PySem.Spec PyProof.Rows L2
/-! ## str(x) by the own __str__ of an instance's class -/
def rStrO (K : PySem.W.Frag) (as : List MA) : List V → Hp → VK → Prop := fun xs H Q => ∃ a C dx fs, xs = [.ref a] ∧ H a = some (.ins C dx fs) ∧ ∃ y ∈ as, y.C = C ∧ spA K y.c [.ref a] H (fun v H' => (∃ t, v = .str t) ∧ Q v H') E0
def STok (X : Cx) (y : MA) : Prop := ∃ (k : Nat) (f : Addr) (fd : FuncData) (ps : List Str), Cls X.K y.C ∧ Meth X.K y.C "__str__" f ∧ FnOk X.prog X.w X.K X.mg X.base CX0 k f fd ps (spA X.K y.c) ∧ Room (k + 2) X.A ∧ Binds X.K fd ps []
theorem str_inner {X : Cx} {as : List MA} (hy : ∀ y ∈ as, STok X y) {pins : List (Addr × Obj)} {σ : L2.St} {H : Hp} {s : Shared} {a C dx : Addr} {fs : List (Str × V)} {y : MA} {Q : VK} {E' : Value → Shared → Prop} (I : Inv X pins σ H s) (ea : H a = some (.ins C dx fs)) (hm : y ∈ as) (ec : y.C = C) (q : spA X.K y.c [.ref a] H (fun v H' => (∃ t, v = .str t) ∧ Q v H') E0) :
    wpAny (model X.prog X.w) X.A.in1.in1 (callSpecial? (.ref a) (Str.ofString "__str__") []) (fun r s' => ∃ v, r = some v ∧ ∃ z u, v = .str z u ∧ EP X pins σ Q v s') E' s := by
  obtain ⟨k, f, fd, ps, c, mt, F, hr, hb⟩ := hy y hm
  rw [ec] at c mt
  obtain ⟨mA, O, _, _, _, _⟩ := ins_get I.hok ea
  obtain ⟨od, J, _⟩ := O.look
  have hl : ([Value.ref a] ++ []).length = ps.length := by
    rw [← F.len _ _ _ _ q]
    rfl
  refine PySem.W.special_fn I.kIn J mt.at_ (beq_iff_eq.mp mt.fn) (wpAny_call (codeAny_mono (F.run X.A.in1.in1 X.stack s H ⟨[.ref a], []⟩ [.ref a] [.ref a] (fun v H' => (∃ t, v = .str t) ∧ Q v H') E0 hr.in1.in1 I.env0.in1.in1 (hb _ [.ref a] I.kIn hl) (.cons rfl .nil) q) fun r s' hq => ?_))
  cases r with
  | error er => exact hq.elim
  | ok fl =>
    cases fl with
    | ret u =>
      obtain ⟨v, H', I3, rv, ⟨t, ev⟩, q3⟩ := I.after hq
      subst ev
      have rv' := rv
      obtain ⟨tk, rfl⟩ := rv
      exact ⟨_, rfl, t, tk, rfl, ⟨.str t, H', I3, rv', q3⟩⟩
    | next | brk | cont => exact False.elim hq
open Builtin Builtin.Str in
theorem call_strO {X : Cx} {K : PySem.W.Frag} {as : List MA} (h : X.K = K) (hr : Room 2 X.A) (hy : ∀ y ∈ as, STok X y) : CallR X (.type "str") (rStrO K as) := by
  subst h
  intro pins s σ H xs us Q I r h
  obtain ⟨a, C, dx, fs, rfl, ea, y, hm, ec, q⟩ := h
  obtain ⟨u, rfl, rx⟩ := vals1 r
  obtain rfl : u = Value.ref a := rx
  have key0 := str_inner hy (E' := X.xe) I ea hm ec q
  refine PySem.callType_codes (T := "str") (Bi := Builtin.«object.__init__») (Q₁ := fun r s₁ => ∃ y u, r = .str y u ∧ EP X pins σ Q r s₁) PySem.F.called_str (PySem.F.typeCall_str_1 _) PySem.F.entry_object_init ?_ ?_
  · refine codeAny_of_tree ?_
    show wpAny _ X.A.in1.in1 (do checkBuiltinCall "str.__new__" ⟨[.type "str", .ref a], []⟩; again (.builtin "str.__new__" ⟨[.type "str", .ref a], []⟩)) _ _ s
    refine wpAny_bind (wpAny_of_eq (PySem.F.newCall_str_1 _) (wpAny_pure ⟨plainId_quiet (by decide +kernel) _, codeAny_builtin PySem.F.entry_str_new ?_⟩))
    rw [Around.under_plainId (by decide +kernel) _]
    rw [str_new_tree]
    refine wpAny_bind (wpAny_pure ?_)
    refine wpAny_bind (wpAny_of_eq isSubtype_str_str ?_)
    have key : wpAny (model X.prog X.w) X.A.in1.in1 (PySem.Builtin.Str.strOf (.ref a)) (fun r s₁ => ∃ y u, r = .str y u ∧ EP X pins σ Q r s₁) X.xe s := by
      unfold PySem.Builtin.Str.strOf
      rw [show isExactStr (.ref a) = false from rfl]
      refine wpAny_bind (m := cRoomFor _ _) (wpAny_cRoomFor hr.in1.in1.units0 ?_)
      refine wpAny_bind (m := callSpecial? (.ref a) (Str.ofString "__str__")) (wpAny_mono key0 (fun r s' z => ?_) fun _ _ y => y)
      obtain ⟨v, rfl, zz, uu, rfl, z⟩ := z
      exact wpAny_pure ⟨_, _, rfl, z⟩
    exact wpAny_bind (wpAny_mono key (fun r s₁ hr => wpAny_pure hr) fun _ _ y => y)
  · rintro obj s₁ ⟨y, u, rfl, hq⟩
    exact ⟨typeIs_str _ _ _, PySem.F.args_object_init_2 _ _, object_init_meets PySem.F.called_str.init.lookup PySem.F.called_str.made (by decide) X.prog X.w X.A.in1 _ s₁ ⟨typeIs_str _ _ _, rfl, hq⟩⟩
theorem st_nil {X : Cx} : ∀ y ∈ ([] : List MA), STok X y := fun _ h => by cases h
theorem st_cons {X : Cx} {y : MA} {as : List MA} (h1 : STok X y) (h : ∀ y ∈ as, STok X y) : ∀ z ∈ y :: as, STok X z := fun z hz => by
  rcases List.mem_cons.mp hz with rfl | hz
  · exact h1
  · exact h z hz
theorem sto_of {X : Cx} {K : PySem.W.Frag} {cn x qual : Str} {st : Stmt} {k j : Nat} {ps : List Str} {c : ASp} (h : X.K = K) (hc : (He.Fa.cls cn).ok K = true) (hm : (He.Fa.meth cn "__str__").ok K = true) (C : Cm X.prog X.w K X.mg X.base CX0 (cn, some ("__str__" : Str)) x qual st [] [] k ps c) (hr : Room j X.A) (hk : k + 2 ≤ j)
    (hb : ∀ (cl : List (Str × Addr)) (kV doc pm : Value) (an : Option Addr) (cdv ct : Value) (us : List Value), us.length = ps.length → bindArgs (PySem.W.fnX x qual (defArgs st) (defBody st) (defScope st) cl .none kV doc pm an cdv ct) ⟨us, []⟩ = pure (ps.zip us)) : STok X ⟨He.ga K cn, c, [], [], []⟩ := by
  subst h
  obtain ⟨fd, F, B, kp⟩ := C.ex
  exact ⟨k, _, fd, ps, He.cls_ok hc, He.meth_ok hm, F, hr.mono hk, bB B hb⟩
section
variable {J : Jx} {M : Ms} {P : Ent → Ms → Prop}
theorem n_strO {e : Ent} {C : Addr} {fs : List (Str × Ent)} {as : List MA} {m : MA} (ho : OV M e C fs) (hm : m ∈ as) (ec : m.C = C) (h : Fr m.c [e] M (fun e M' => (∃ t, e = .d (.str t)) ∧ P e M') X0) : ON J (rStrO J.K as) [e] M P := fun F Z H vs mm xr r1 Q q => by
  cases r1 with
  | cons r0 rt =>
    cases rt
    obtain ⟨a, dx, us, rfl, ea, _⟩ := ov_ok mm r0 ho
    refine ⟨a, C, dx, us, rfl, ea, m, hm, ec, fr_sp (J := J) (E := E0) h (.cons r0 .nil) mm (fun _ _ _ _ _ _ _ _ z _ => z.elim) fun v F' H' e' M' s' m' r' p => ?_⟩
    obtain ⟨⟨t, rfl⟩, p⟩ := p
    have r2 := r'
    cases r'
    exact ⟨⟨t, rfl⟩, q _ F' H' (.d (.str t)) M' s' m' r2 p⟩
theorem n_strO1 {e : Ent} {C : Addr} {fs : List (Str × Ent)} {m : MA} (ho : OV M e C fs) (ec : m.C = C) (h : Fr m.c [e] M (fun e M' => (∃ t, e = .d (.str t)) ∧ P e M') X0) : ON J (rStrO J.K [m]) [e] M P := n_strO ho (List.mem_cons_self ..) ec h
end
end Z
namespace Z
open PySem PySem.Spec PyProof.Rows L2
/-! ## text[::-1] -/
def revS (z : Str) : Str := ⟨(cs z).reverse.toArray⟩
def tRevS (te : TE) : TE := fun σ H Q => te σ H fun x H1 => ∃ z, x = .str z ∧ z.length ≤ sizeLine ∧ Q (.str (revS z)) H1
theorem pick_rev (z : Str) : (PySem.Builtin.Str.strSliceIndices none none (-1) z.length).filterMap (z.cps[·]?) = (cs z).reverse := by
  have e : PySem.Builtin.Str.strSliceIndices none none (-1) z.length = sliceRange ((z.length : Int) - 1) (-1) (-1) := by
    unfold PySem.Builtin.Str.strSliceIndices
    rfl
  rw [e, PySem.W.krv_sliceRange]
  show ((List.range z.cps.size).map fun k => z.cps.size - 1 - k).filterMap (z.cps[·]?) = _
  rw [PySem.W.krv_range, List.filterMap_reverse, PySem.W.krv_all]
theorem pe_revS {X : Cx} {e : Expr} {te : TE} {k : Nat} {p1 p2 p3 pos : Pos} (he : PE X e te) : PE X (.Subscript e (.Slice none none (some (.UnaryOp .USub (.Constant (.int 1) k p1) p2)) p3) pos) (tRevS te) := by
  refine ⟨fun pins s σ H Q I h => ?_⟩
  refine Subscript_ (thn (he.run pins s σ H _ I h) fun v s1 ⟨x, H1, I1, r1, q1⟩ => ?_)
  obtain ⟨z, ex, hz, q⟩ := q1
  subst ex
  obtain ⟨t, rfl⟩ := r1
  have hst : PO X (some (.UnaryOp .USub (.Constant (.int 1) k p1) p2)) (tPart (tUn (rU fun i => .int (-i)) (tC (.int 1)))) := po_some (pe_un un_neg pe_int)
  refine wpAny_Slice (thn (po_none.run pins s1 σ H1 (fun o H2 => o = none ∧ H2 = H1) I1 ⟨rfl, rfl⟩) fun vl s2 ⟨l, H2, I2, pl, el, e2⟩ => ?_)
  subst el e2
  refine thn (po_none.run pins s2 σ H2 (fun o H3 => o = none ∧ H3 = H2) I2 ⟨rfl, rfl⟩) fun vu s3 ⟨u, H3, I3, pu, eu, e3⟩ => ?_
  subst eu e3
  refine thn (hst.run pins s3 σ H3 (fun o H4 => o = some (-1) ∧ H4 = H3) I3 ⟨1, rfl, -1, rfl, rfl, rfl⟩) fun vs s4 ⟨o, H4, I4, ps, eo, e4⟩ => ?_
  subst eo e4
  have I5 : Inv X pins σ H4 { s4 with heap := s4.heap.push { cls := .type "slice", data := .fields #[vl, vu, vs] } } := I4.kept (t' := s4.toks) fun b ob q => Heap.get?_push_of_some _ q
  obtain ⟨l, rfl, hl⟩ := IsPart.raw pl
  obtain ⟨u, rfl, hu⟩ := IsPart.raw pu
  obtain ⟨st, rfl, hst'⟩ := IsPart.raw ps
  show wpAny (model X.prog X.w) X.A (subscriptTail e (.Slice none none (some (.UnaryOp .USub (.Constant (.int 1) k p1) p2)) p3) (.str z t) (.ref s4.heap.objs.size)) (EP X pins σ Q) X.xe { s4 with heap := s4.heap.push { cls := .type "slice", data := .fields #[partValue l, partValue u, partValue st] } }
  refine tail_any (ops := [.ref s4.heap.objs.size, .str z t]) (T := "str") (typeIs_str _ _ _) F.slot_str_getitem.lookup ?_ (by with_unfolding_all rfl)
  refine wpAny_getItem_str_slice (l := l) (u := u) (st := st) ⟨_, Heap.get?_push_size _ rfl, rfl, rfl⟩ (by rw [hst']; rfl) ?_
  have hp : slicePicked z l u st = PySem.Builtin.Str.strSliceIndices none none (-1) z.length := by
    unfold slicePicked
    rw [hl, hu, hst']
    rfl
  unfold sliceMade
  rw [hp, if_neg (by rw [hst']; simp), pick_rev]
  refine ⟨?_, .str _, H4, I5.tok _, ⟨_, rfl⟩, q⟩
  show (revS z).length ≤ sizeLine
  have : (revS z).length = z.length := by
    unfold revS
    rw [len_cs]
    simp [len_cs]
  omega
theorem w_revS {J : Jx} {Γ : Ga} {M : Ms} {P : Ent → Ms → Prop} {te : TE} (h : Wx J te Γ M fun x M1 => ∃ z, x = .d (.str z) ∧ z.length ≤ sizeLine ∧ P (.d (.str (revS z))) M1) : Wx J (tRevS te) Γ M P := fun F Z σ H en m x Q q =>
  h F Z σ H en m x _ fun v F1 H1 e M1 s1 m1 r1 ⟨z, ez, hz, p⟩ => by
    subst ez
    cases r1
    exact ⟨z, rfl, hz, q _ F1 H1 (.d (.str (revS z))) M1 s1 m1 (Rp.str _) p⟩
end Z
set_option Elab.async false
set_option linter.all false
set_option maxRecDepth 100000
set_option maxHeartbeats 4000000
namespace Z
open PySem PySem.Spec L2
section
variable {J : Jx} {M : Ms} {P : Ent → Ms → Prop} {K : PySem.W.Frag} {E : WX} {X : Ga → Xa} {G : Wd → Prop}
/-! ## int(b) -/
theorem n_intB {b : Bool} (p : P (.d (.int (if b then 1 else 0))) M) : ON J rIntU [.d (.bool b)] M P := n_l fun F Z H vs m xr r1 Q q => by
  cases r1 with
  | cons r0 rt =>
    cases rt
    cases r0
    exact .inr ⟨b, rfl, q _ F H (.d (.int (if b then 1 else 0))) M (Same.refl F) m (Rp.int _) p⟩
instance i_n_intB {b : Bool} : Stp (ON J rIntU [.d (.bool b)] M P) (P (.d (.int (if b then 1 else 0))) M) := ⟨fun p => n_intB p⟩
/-! ## a sign of any text, by its place -/
def HasI (s : Str) (i : Int) : Prop := ∃ c, atI (cs s) i = some c
theorem o_ixH {s : Str} {i : Int} (hl : s.length ≤ sizeLine) (h : HasI s i) (p : ∀ c, atI (cs s) i = some c → P (.d (.str ⟨#[c]⟩)) M) : O2 J (rIx J.K) (.d (.str s)) (.d (.int i)) M P := by
  obtain ⟨c, hc⟩ := h
  exact o_ixS hl hc (p c hc)
end
theorem at0 {α : Type} (xs : List α) : atI xs 0 = xs.head? := by
  cases xs with
  | nil => rfl
  | cons x r =>
    refine atI_nat' (by decide) ?_
    rfl
theorem atN1 {α : Type} (xs : List α) : atI xs (-1) = xs.getLast? := by
  unfold atI ixN
  rw [if_neg (by decide)]
  cases xs with
  | nil => rfl
  | cons x r =>
    rw [if_pos (by simp only [List.length_cons]; omega)]
    show (x :: r)[((-1 : Int) + ((r.length + 1 : Nat) : Int)).toNat]? = _
    rw [show ((-1 : Int) + ((r.length + 1 : Nat) : Int)).toNat = r.length by omega, List.getLast?_eq_getElem?]
    rfl
theorem hasI_nat {s : Str} {i : Int} (h0 : 0 ≤ i) (h1 : i < (s.length : Int)) : HasI s i := by
  have hi : i.toNat < (cs s).length := by rw [← len_cs]; omega
  exact ⟨(cs s)[i.toNat], atI_nat' h0 (List.getElem?_eq_getElem hi)⟩
theorem hasI_last {s : Str} (h1 : 1 ≤ s.length) : HasI s (-1) := by
  unfold HasI
  rw [atN1]
  cases e : cs s with
  | nil =>
    rw [len_cs, e] at h1
    exact absurd h1 (by decide)
  | cons x r => exact ⟨_, List.getLast?_eq_some_getLast (by simp)⟩
/-! ## the last sign -/
theorem drop_last1 {α : Type} : ∀ {l : List α} (h : l ≠ []), l.drop (l.length - 1) = [l.getLast h]
  | [], h => absurd rfl h
  | [x], _ => rfl
  | x :: y :: r, _ => by
    have := drop_last1 (l := y :: r) (by simp)
    rw [List.getLast_cons (by simp)]
    rw [← this]
    simp
theorem ends1 (x : Str) (c : Nat) : Txt.endswith x ⟨#[c]⟩ = decide ((cs x).getLast? = some c) := by
  have e : Txt.endswith x ⟨#[c]⟩ = (decide (0 + (⟨#[c]⟩ : Str).length ≤ x.length) && Builtin.Str.subAt x ⟨#[c]⟩ (x.length - (⟨#[c]⟩ : Str).length)) := rfl
  rw [e, PySem.StrLaws.subAt_eq]
  have e1 : (⟨#[c]⟩ : Str).length = 1 := rfl
  rw [e1, len_cs]
  show (decide (0 + 1 ≤ (cs x).length) && (((cs x).drop ((cs x).length - 1)).take 1 == [c])) = _
  cases h : (cs x) with
  | nil => rfl
  | cons d a =>
    have hn : d :: a ≠ [] := by simp
    rw [drop_last1 hn, List.getLast?_eq_some_getLast hn, decide_eq_true (by simp), Bool.true_and]
    show ([(d :: a).getLast hn] == [c]) = _
    generalize (d :: a).getLast hn = z
    by_cases e : z = c
    · subst e; simp
    · simp [e]
/-! ## cuts of a text -/
theorem cut_all (s : Str) : cutS s (some 0) none = s := by
  refine cs_inj ?_
  rw [show (some (0 : Int)) = some ((0 : Nat) : Int) from rfl, cut_from, List.drop_zero]
theorem cut_lo (s : Str) (a b : Option Int) : cs (cutS s a b) = ((cs s).drop (HT.sIx s.length 0 a)).take (HT.sIx s.length s.length b - HT.sIx s.length 0 a) := rfl
theorem cut_inner_len (s : Str) : (cutS s (some 1) (some (-1))).length = s.length - 2 := by
  rw [len_cs, cut_lo, List.length_take, List.length_drop, ← len_cs]
  have e : HT.sIx s.length 0 (some (1 : Int)) = min 1 s.length := HT.sIx_nat ..
  rw [e]
  have e2 : HT.sIx s.length s.length (some (-1 : Int)) = s.length - 1 := by
    unfold HT.sIx
    simp
    omega
  rw [e2]
  omega
theorem cut_mem {s : Str} {a b : Option Int} {c : Nat} (h : c ∈ cs (cutS s a b)) : c ∈ cs s := List.mem_of_mem_drop (List.mem_of_mem_take h)
end Z
namespace Z
open PySem PySem.Spec L2
/-! ## bounds of lengths, found by instances -/
class LenLe (s : Str) (n : outParam Nat) : Prop where
  le : s.length ≤ n
instance (priority := low) lenle_s {s : Str} : LenLe s s.length := ⟨Nat.le_refl _⟩
instance lenle_app {s t : Str} {m n : Nat} [h1 : LenLe s m] [h2 : LenLe t n] : LenLe (s ++ t) (m + n) := ⟨by rw [len_app]; have := h1.le; have := h2.le; omega⟩
instance lenle_cut {s : Str} {a b : Option Int} {n : Nat} [h : LenLe s n] : LenLe (cutS s a b) n := ⟨Nat.le_trans (cut_len s a b) h.le⟩
instance lenle_one {c : Nat} : LenLe ⟨#[c]⟩ 1 := ⟨Nat.le_refl _⟩
instance lenle_empty : LenLe Str.empty 0 := ⟨Nat.le_refl _⟩
theorem rev_len (s : Str) : (revS s).length = s.length := by
  unfold revS
  rw [len_cs]
  simp [len_cs]
instance lenle_rev {s : Str} {n : Nat} [h : LenLe s n] : LenLe (revS s) n := ⟨by rw [rev_len]; exact h.le⟩
instance lenle_strip {s t : Str} {n : Nat} [h : LenLe s n] : LenLe (Txt.stripChars s t) n := ⟨Nat.le_trans (strip_len s t) h.le⟩
instance lenle_mul {s : Str} {k : Int} {n : Nat} [h : LenLe s n] : LenLe (Txt.mul s k) (n * k.toNat) := ⟨Nat.le_trans (mul_len s k) (Nat.mul_le_mul_right _ h.le)⟩
instance lenle_upper {s : Str} {n : Nat} [h : LenLe s n] : LenLe (Txt.upper s) (3 * n) := ⟨by have h1 := PyProof.Rows.len_upper s; have := h.le; omega⟩
theorem szl2 {s t : Str} {m n : Nat} [h1 : LenLe s m] [h2 : LenLe t n] (h : m + n ≤ 16777216) : s.length + t.length ≤ sizeLine := by
  have := h1.le
  have := h2.le
  rw [sizeLine]
  omega
theorem szl1 {s : Str} {m : Nat} [h1 : LenLe s m] (h : m ≤ 16777216) : s.length ≤ sizeLine := Nat.le_trans h1.le (by rw [sizeLine]; exact h)
theorem szn {s : Str} {m k : Nat} [h1 : LenLe s m] (h : m ≤ k) : s.length ≤ k := Nat.le_trans h1.le h
/-! ## cuts at drawn places -/
theorem cutI_to {s : Str} {d : Int} (h : 0 ≤ d) : cs (cutS s none (some d)) = (cs s).take d.toNat := by
  obtain ⟨k, rfl⟩ := Int.eq_ofNat_of_zero_le h
  rw [cut_to]
  simp
theorem cutI_from {s : Str} {d : Int} (h : 0 ≤ d) : cs (cutS s (some d) none) = (cs s).drop d.toNat := by
  obtain ⟨k, rfl⟩ := Int.eq_ofNat_of_zero_le h
  rw [cut_from]
  simp
theorem cutI_last {s : Str} : cs (cutS s none (some (-1))) = (cs s).take ((cs s).length - 1) := by
  rw [cut_lo, HT.sIx_none, List.drop_zero, Nat.sub_zero]
  have e2 : HT.sIx s.length s.length (some (-1 : Int)) = s.length - 1 := by
    unfold HT.sIx
    simp
    omega
  rw [e2, len_cs]
theorem cut_one (s : Str) (c : Nat) : cutS s none (some 1) = (⟨#[c]⟩ : Str) ↔ (cs s).head? = some c := by
  have e : cs (cutS s none (some 1)) = (cs s).take 1 := cut_to s 1
  constructor
  · intro h
    rw [h] at e
    cases hc : cs s with
    | nil => rw [hc] at e; cases e
    | cons d r =>
      rw [hc] at e
      have e2 : [c] = [d] := e
      rw [List.head?_cons, (List.cons.inj e2).1]
  · intro h
    refine cs_inj ?_
    rw [e]
    cases hc : cs s with
    | nil => rw [hc] at h; cases h
    | cons d r =>
      rw [hc] at h
      have e2 : d = c := Option.some.inj h
      rw [e2]
      rfl
/-! ## an element of a written list, by its place -/
theorem o_ixM {J : Jx} {M : Ms} {P : Ent → Ms → Prop} {α : Type} {f : α → PyData} {xs : List α} {y : Ent} {ds : List PyData} {i : Int} (hd : LD M y ds) (hx : ds = xs.map f) (h0 : 0 ≤ i) (h1 : i < (xs.length : Int)) (q : ∀ x, x ∈ xs → xs[i.toNat]? = some x → P (.d (f x)) M) : O2 J (rIx J.K) y (.d (.int i)) M P := by
  subst hx
  have hi : i.toNat < xs.length := by omega
  exact o_ixL (d := f xs[i.toNat]) hd (atI_nat' h0 (by rw [List.getElem?_map, List.getElem?_eq_getElem hi]; rfl)) (q _ (List.getElem_mem hi) (List.getElem?_eq_getElem hi))
theorem o_ixLast {J : Jx} {M : Ms} {P : Ent → Ms → Prop} {y : Ent} {ds : List PyData} {d : PyData} (hd : LD M y (ds ++ [d])) (p : P (.d d) M) : O2 J (rIx J.K) y (.d (.int (-1))) M P := by
  refine o_ixL hd ?_ p
  rw [atN1, List.getLast?_append]
  rfl
end Z
set_option Elab.async false
set_option linter.all false
set_option maxRecDepth 100000
set_option maxHeartbeats 4000000
/-! ## exceptions whose context is None: raise, try -/
namespace L2
open PySem PySem.Spec PyProof.Rows
theorem mk_endZN {X : Cx} {pins : List (Addr × Obj)} {σ : St} {H1 H2 : Hp} {Q : XK} {hp hp2 h2 : Heap} {g1 g2 : Array GenState} {d1 d2 : Drawn} {t1 t2 : Nat} {os1 os2 : OsState} {a C d : Addr} {fs : List (Str × V)} (T : Raises X (.ref C)) (I1 : Inv X pins σ H1 ⟨hp, g1, d1, t1, os1⟩)
    (ha : hp.objs.size ≤ a) (k : ∀ b o, hp.get? b = some o → hp2.get? b = some o) (un : Un (frs X.stack) [] (upd H1 a (exo a C none)) H2 hp2 h2) (hok : HOk X.prog X.w H2 h2) (ho : os2 = os1) (hb : AllBare g2)
    (ea : H2 a = some (exo a C (some d))) (ed : H2 d = some (exd d fs)) (hd1 : H1 d = none) (q : Q (.ref C) (some d) (upd (del H2 a) d (.xd fs))) : L2N.MkP X pins σ Q (.ref a) ⟨h2, g2, d2, t2, os2⟩ := by
  obtain ⟨t0, G, J, kG, ge, hoe, na⟩ := mk_end0 (d2 := d2) (t2 := t2) I1 ha k un hok ho hb ea ed hd1
  exact ⟨a, _, _, ⟨G, g2, d2, t2, os2⟩, _, .ref C, some d, rfl, J, kG, ge, hoe, ⟨rfl, rfl, fun vs e => by cases e; rfl⟩, rfl, rfl, na, rfl, hb, T, q⟩
section
variable {X : Cx} {e : Expr} {es : List Expr} {ta : TA} {p pos : Pos}
theorem pmk_oexZN {CX : CXT} {x : Str} {C fI : Addr} {k : Nat} {fd : FuncData} {ps : List Str} {sp : Sp} {ds : List Value} {dvs : List V} (T : OexC X.K C) (iC : PySem.W.findIn X.K (.ref C) "__init__" = some (some (.ref fI))) (tI : PySem.W.typeIn X.K (.ref fI) = some (.type "function"))
    (F1 : FnOk X.prog X.w X.K X.mg X.base CX k fI fd ps sp) (hr : Room (k + 1) X.A) (hb : Binds X.K fd ps ds) (hd : Vals dvs ds) (hx : Passes CX X (fun _ _ _ => False)) (hg : Gl X x) (hm : X.mg x = some (.ref C)) (ha : PA X (e :: es) ta)
    (hdb : (x == ("__debug__" : Str)) = false := by decide) (he : starEach (e :: es) X.env = (false, eval e X.env) :: starEach es X.env := by rfl) (hpl : (backTo pos (starEach es X.env)).any (·.1) = false := by rfl) :
    L2N.PMk X (.Call (.Name x p) (e :: es) [] pos) (tMkO C sp dvs ta) := by
  intro pins s σ H Q I h
  obtain ⟨nm, q, N, bs, bm, sn, sub, ab, col, dd, k0, k1, k2, k3, k5, hC, hbm⟩ := T.cls
  refine wpAny_Call_Name_kw (ld_glob I hg hm ?_ hdb)
  refine PySem.W.callWith_K (h₀ := X.base) I.ok.mod.kin T.kC (thn (ha.run pos pins s σ H _ I h) fun us s1 ⟨vs, H1, I1, r1, hz, q1⟩ => ⟨I1.kIn, ?_⟩) he hpl
  show wpAny _ _ (call (.ref C) us) _ _ _
  obtain ⟨hp, g, dr, tk, os⟩ := s1
  have hsz : hp.objs.size ≤ hp.objs.size + 1 := Nat.le_succ _
  have hn : H1 (hp.objs.size + 1) = none := I1.hok.fresh hsz
  have hq := q1 (hp.objs.size + 1) hn
  have kk : ∀ b o, hp.get? b = some o → ((hp.push (PySem.W.kdv_tup us)).push (PySem.HandSPX.excO C hp.objs.size)).get? b = some o := fun b o e => Heap.get?_push_of_some _ (Heap.get?_push_of_some _ e)
  have hget : ((hp.push (PySem.W.kdv_tup us)).push (PySem.HandSPX.excO C hp.objs.size)).get? (hp.objs.size + 1) = some (PySem.HandSPX.excO C hp.objs.size) := by heap_get
  have I2 : Inv X pins σ (upd H1 (hp.objs.size + 1) (exo (hp.objs.size + 1) C none)) ⟨(hp.push (PySem.W.kdv_tup us)).push (PySem.HandSPX.excO C hp.objs.size), g, dr, tk, os⟩ :=
    I1.laid (t' := tk) (a := hp.objs.size + 1) (o := exo (hp.objs.size + 1) C none) (h' := (hp.push (PySem.W.kdv_tup us)).push (PySem.HandSPX.excO C hp.objs.size)) kk hsz (exo_ok hget)
  have r2 : Vals (V.ref (hp.objs.size + 1) :: (vs ++ dvs)) (Value.ref (hp.objs.size + 1) :: (us ++ ds)) := .cons rfl (r1.append hd)
  have hl : (Value.ref (hp.objs.size + 1) :: us ++ ds).length = ps.length := by
    have e := r2.length
    rw [F1.len _ _ _ _ hq] at e
    exact e.symm
  have hus : us.length ≤ sizeLine := by
    rw [← Paired.length r1, sizeLine_eq]
    omega
  refine wpAny_call (PySem.HandSPX.call_own F.excBase_ValueError (fun Y => PySem.HandSPX.refsVE_contains Y bm hbm) (I1.kIn _ _ hC) (PySem.W.looks_findIn I1.kIn iC) (fun self => PySem.W.bind_fn I1.kIn self tI) hus
    (codeAny_mono (F1.run _ X.stack _ _ ⟨Value.ref (hp.objs.size + 1) :: us, []⟩ (Value.ref (hp.objs.size + 1) :: (us ++ ds)) _ _ (fun _ _ _ => False) (hr.make C us []) (I2.env0.make C us []) (hb _ (Value.ref (hp.objs.size + 1) :: us) I2.kIn hl) r2 hq) fun r s' hq' => ?_))
  cases r with
  | error er => exact hx pins σ _ _ er s' I2 hq'
  | ok fl =>
    cases fl with
    | ret u =>
      obtain ⟨v, H2, os2, bare2, un2, hok2, rv, ev, d, fs, ea, ed, hd1, q2⟩ := hq'
      subst ev
      obtain ⟨h2, g2, d2, t2, os'⟩ := s'
      exact ⟨rv, mk_endZN (raises_own T.exC T.tyC) I1 hsz kk un2 hok2 os2 bare2 ea ed hd1 q2⟩
    | next => exact False.elim hq'
    | brk => exact False.elim hq'
    | cont => exact False.elim hq'
end
end L2
namespace Z
open PySem PySem.Spec L2
theorem passCN {X : Cx} : ∀ σ : L2.St, PassesAt (L2N.CX X.prog X.w) X σ E0 := fun _ _ _ _ _ _ _ c => by
  obtain ⟨_, _, _, _, _, _, _, _, _, _, _, _, z⟩ := c
  exact z.elim
theorem ps_raiseN {X : Cx} {W : WX} {e : Expr} {t : L2.St → Hp → XK → Prop} {pos : Pos} (hc : X.calm = true) (tk : L2N.Takes X W) (he : L2N.PMk X e t) : PS X (.Raise (some e) none pos) (tRaise W t) := L2N.ps_raise hc tk he
theorem takes_none5N {X : Cx} : L2N.Takes X (fun _ _ _ _ => False) := fun _ _ ⟨_, _, _, _, _, _, _, _, _, _, _, _, _, _, _, _, w⟩ => w.elim
section
variable {X : Cx} {K : PySem.W.Frag} {cn x qual : Str} {st : Stmt} {k j : Nat} {ps : List Str} {sp : Sp} {p pos : Pos} {e : Expr} {es : List Expr} {ta : TA}
theorem pmk_oexN (h : X.K = K) (o1 : fOex cn K = true) (o2 : fXini cn K = true) (C : Ce X.prog X.w K X.mg X.base CX0 cn x qual st k ps sp) (hr : Room j X.A) (hj : k + 1 ≤ j) (hg : Gl X cn) (hm : X.mg cn = some (.ref (He.ga K cn)))
    (hb : ∀ (cl : List (Str × Addr)) (kV doc pm : Value) (an : Option Addr) (cdv ct : Value) (us : List Value), us.length = ps.length → bindArgs (PySem.W.fnX x qual (defArgs st) (defBody st) (defScope st) cl .none kV doc pm an cdv ct) ⟨us, []⟩ = pure (ps.zip us)) (ha : PA X (e :: es) ta)
    (hdb : (cn == ("__debug__" : Str)) = false := by decide) (he : starEach (e :: es) X.env = (false, eval e X.env) :: starEach es X.env := by rfl) (hpl : (backTo pos (starEach es X.env)).any (·.1) = false := by rfl) :
    L2N.PMk X (.Call (.Name cn p) (e :: es) [] pos) (tMkO (He.ga K cn) sp [] ta) := by
  subst h
  obtain ⟨fd, F, B⟩ := C.ex
  obtain ⟨a1, a2⟩ := He.ba o2
  exact pmk_oexZN (CX := CX0) (oex_ok o1) (of_decide_eq_true a1) (of_decide_eq_true a2) F (hr.mono hj) (bB B hb) .nil (fun _ _ _ _ _ _ _ z => z.elim) hg hm ha hdb he hpl
theorem pmk_ownN {m : Str} {jj : Nat} {p2 : Pos} (h : X.K = K) (hx : fXo cn K = true) (hm : X.mg cn = some (.ref (He.ga K cn))) (hg : Gl X cn)
    (hdb : (cn == ("__debug__" : Str)) = false := by decide) : L2N.PMk X (.Call (.Name cn p) [.Constant (.str m) jj p2] [] pos) (tMk0 (He.ga K cn)) := by
  subst h
  obtain ⟨a1, hx⟩ := He.ba hx
  obtain ⟨a2, hx⟩ := He.ba hx
  obtain ⟨a3, a4⟩ := He.ba hx
  exact L2N.pmk_own PySem.F.excBase_ValueError a1 hm a2 (raises_own (of_decide_eq_true a3) (of_decide_eq_true a4)) hg hdb
end
section
variable {X : Cx} {K : PySem.W.Frag} {x n : Str} {c : Value} {tab : ETab} {i : Nat} {body suite : List Stmt} {b₀ : Stmt} {np pos pos' : Pos} {tb : WX → TS} {ts : Suit} {Wout : WX}
theorem ks_tryON {ht : ∀ p ∈ tab, PySem.W.exmOne K p.1 c = some p.2} (h : X.K = K) (hs : X.stack = X.env :: X.outer) (hf : X.env.frame = some X.env.locals) (hc : Names X x c) (tk : L2N.Takes X Wout)
    (hb : ∀ (W : WX) (pn : List (Addr × Obj)) (xe : Value → Shared → Prop), L2N.Takes (X.tr pn xe) W → PassesOwn (model X.prog X.w) X.A X.env xe → PSs (X.tr pn xe) body (tb W))
    (hsu : ∀ (a : Addr) (oe : Obj) (cls : Value) (d : Option Addr) (pn : List (Addr × Obj)), L2N.Zn cls d oe → (∃ vs, oe.data = .fields vs) → PSs (X.suite a ((a, oe) :: pn)) (b₀ :: suite) (ts a cls d)) :
    PS X (.Try body [.ExceptHandler (some (.Name x np)) none (b₀ :: suite) pos'] [] [] pos) (tTryO K c tab ht ts Wout tb) := by
  subst h
  exact L2N.ps_try_many (l := [(c, ts)]) hs hf tk hb (.cons hc hsu .nil)
theorem ks_tryAN {ht : ∀ p ∈ tab, PySem.W.exmOne K p.1 c = some p.2} (h : X.K = K) (hs : X.stack = X.env :: X.outer) (hf : X.env.frame = some X.env.locals) (hN : X.N.Nodup) (hi : X.N[i]? = some n) (hln : X.env.kindOf n = some .local) (hc : Names X x c) (tk : L2N.Takes X Wout)
    (hb : ∀ (W : WX) (pn : List (Addr × Obj)) (xe : Value → Shared → Prop), L2N.Takes (X.tr pn xe) W → PassesOwn (model X.prog X.w) X.A X.env xe → PSs (X.tr pn xe) body (tb W))
    (hsu : ∀ (a : Addr) (oe : Obj) (cls : Value) (d : Option Addr) (pn : List (Addr × Obj)), L2N.Zn cls d oe → (∃ vs, oe.data = .fields vs) → PSs (X.suite a ((a, oe) :: pn)) (b₀ :: suite) (ts a cls d)) :
    PS X (.Try body [.ExceptHandler (some (.Name x np)) (some n) (b₀ :: suite) pos'] [] [] pos) (tTryA K c tab ht i ts Wout tb) := by
  subst h
  exact L2N.ps_try_as hs hf hN hi hln hc tk hb hsu
end
/-! ## defs called where an exception is handled -/
open L2H
theorem hot_suite {X : Cx} {a : Addr} {oe : Obj} {cls : Value} {d : Option Addr} {pn : List (Addr × Obj)} (hz : L2N.Zn cls d oe) (hf : ∃ vs, oe.data = .fields vs) : HotC (X.suite a ((a, oe) :: pn)) := by
  obtain ⟨vs, hv⟩ := hf
  exact ⟨(a, oe), ⟨rfl, vs, hv, hz.2.2 vs hv⟩, List.mem_cons_self ..⟩
theorem roomH_suite {X : Cx} {a : Addr} {pn : List (Addr × Obj)} {k : Nat} (hr : Room k X.A) : RoomH k (X.suite a pn).A := ⟨hr.dp, hr.un⟩
theorem RoomH.units1 {k : Nat} {A : Around} (r : RoomH k A) : A.units + 64 < cLine := by have := r.un; omega
structure CaH (P : Program) (w : World) (K : PySem.W.Frag) (mg : Str → Option Value) (base : Heap) (cx : CXT) (x : Str) (st : Stmt) (k : Nat) (ps : List Str) (c : ASp) : Prop where
  ex : ∃ fd : FuncData, FnH P w K mg base cx k (He.ga K x) fd ps (spA K c) ∧ FunD K x x (defArgs st) (defBody st) (defScope st) [] [] (He.ga K x) fd ∧ Binds K fd ps []
  gl : mg x = some (.ref (He.ga K x))
section
variable {X : Cx} {K : PySem.W.Frag} {cx : CXT} {k j : Nat} {ps : List Str} {c : ASp} {x : Str} {st : Stmt} {p pos : Pos} {e : Expr} {es : List Expr} {t : TA} {E : L2.St → XK}
theorem ke_caH (h : X.K = K) (C : CaH X.prog X.w K X.mg X.base cx x st k ps c) (hr : RoomH j X.A) (hk : k ≤ j) (hc : HotC X) (hg : Gl X x) (hx : ∀ σ, PassesAt cx X σ (E σ)) (ha : PA X (e :: es) t)
    (hdb : (x == ("__debug__" : Str)) = false := by decide) (he : starEach (e :: es) X.env = (false, eval e X.env) :: starEach es X.env := by rfl) (hpl : (backTo pos (starEach es X.env)).any (·.1) = false := by rfl) :
    PE X (.Call (.Name x p) (e :: es) [] pos) (tCallSD (spA K c) [] E t) := by
  subst h
  obtain ⟨fd, F, fu, b⟩ := C.ex
  have P0 := pe_callH (pos := pos) (q := p) F (hr.mono hk) hc hg C.gl fu.kp b hx ha hdb he hpl
  refine ⟨fun pins s σ H Q I h => P0.run pins s σ H Q I ?_⟩
  have h2 : t σ H fun vs H1 => spA X.K c (vs ++ []) H1 Q (E σ) := h
  have e2 : (fun (vs : List V) (H1 : Hp) => spA X.K c (vs ++ []) H1 Q (E σ)) = fun vs H1 => spA X.K c vs H1 Q (E σ) := by
    funext vs H1
    rw [List.append_nil]
  rw [e2] at h2
  exact h2
end
section
variable {fs : List Fct} {fn : List DefQ} {K : PySem.W.Frag} {mg : Str → Option Value} {P : Program} {w : World} {base : Heap}
theorem cah_of {cx : CXT} {x : Str} {st : Stmt} {k : Nat} {ps : List Str} {c : ASp} (T : Top fs fn K mg) (i j : Nat) (hi : fn[i]? = some (dd x st)) (hj : fs[j]? = some (fGlo x))
    (hb : ∀ (kV doc pm : Value) (an : Option Addr) (cdv ct : Value) (us : List Value), us.length = ps.length → bindArgs (PySem.W.fnOf x x (defArgs st) (defBody st) (defScope st) .none kV doc pm an cdv ct) ⟨us, []⟩ = pure (ps.zip us))
    (ok : ∀ fd, FunD K x x (defArgs st) (defBody st) (defScope st) [] [] (He.ga K x) fd → FnH P w K mg base cx k (He.ga K x) fd ps (spA K c)) : CaH P w K mg base cx x st k ps c := by
  obtain ⟨fd, F⟩ := T.def_ i hi rfl
  have F' : FunD K x x (defArgs st) (defBody st) (defScope st) [] [] (He.ga K x) fd := F
  exact ⟨⟨fd, ok fd F', F', F'.bindsN hb⟩, T.glo j hj⟩
variable {x qual : Str} {params : Arguments} {body : List Stmt} {scope : Scope} {dvs : List V} {kws : List (Str × V)} {f : Addr} {fd : FuncData}
theorem fn_okH {N ps : List Str} {k : Nat} {c : ASp} {CX : CXT} (F : FunD K x qual params body scope dvs kws f fd) (S : FnScope N ps scope) (len : ∀ es M Q X, c es M Q X → es.length = ps.length)
    (h : ∀ (cdv : Value) (A : Around) (outer : List Env) (s : Shared) (H : Hp) (E : XK) (p : Addr × Obj), RoomH k (A.deeper (PyProof.Rows.envOfC qual scope s.heap.objs.size f cdv)) → HotC (cxH CX P w K mg base N qual scope f cdv A outer s H E p) →
      ∃ t, PSs (cxH CX P w K mg base N qual scope f cdv A outer s H E p) body t ∧ ∀ es M Q X, c es M Q X → Sx (defJ K E (FinX M.length X)) t { nx := fun _ M' => Fin M.length Q (.d .none) M', rt := Fin M.length Q } (startG N es) M) : FnH P w K mg base CX (k + 1) f fd ps (spA K c) := by
  obtain ⟨oc, od, dV, kV, doc, pm, an, cdv, ct, osl, rfl, lk, hcd, _, _⟩ := F.ex
  refine fn_ofH lk hcd S (fun vs H Q E ⟨F, Z, M, es, Qa, X, r, _, hc, _⟩ => r.length.trans (len es M Qa X hc)) fun A outer s H vs Q E p hot hr hsp => ?_
  obtain ⟨F, Z, M, es, Qa, X, r, m, hc, hq, hx⟩ := hsp
  obtain ⟨t, ht, hs⟩ := h cdv A outer s H E p hr ⟨p, ⟨hot.1, hot.2⟩, List.mem_singleton.mpr rfl⟩
  exact ⟨t, ht, fin_run hs r m hc hq hx⟩
end
end Z
set_option Elab.async false
set_option linter.all false
set_option maxRecDepth 100000
set_option maxHeartbeats 4000000
/-! ## the signs of a text, walked where an exception is handled -/
namespace HotX
open PySem PySem.Spec PyProof.Rows
section
variable {prog : Program} {w : World} {A : Around} {E : Value → Shared → Prop} {s : Shared}
theorem not_it {it x1 : Addr} {x : Str} {t : Tok} {i : Nat} {ty : String} {h : Heap} {o1 : Obj} {vs1 : Array Value} (hit : h.IsStrIter it ty x t i) (h1 : h.get? x1 = some o1) (d1 : o1.data = .fields vs1) (c1 : vs1[2]? = some .none) : x1 ≠ it := fun e => by
  obtain ⟨o, ho, hc, hd⟩ := hit
  rw [e, ho] at h1
  cases h1
  rw [hd] at d1
  cases d1
  simp at c1
theorem pyNext_ascii_end_hot {it x1 : Addr} {x : Str} {t : Tok} {i : Nat} {Q : Option Value → Shared → Prop} (hot : HotAt A x1 s.heap)
    (hit : s.heap.IsStrIter it "str_ascii_iterator" x t i) (hx : x.cps[i]? = none)
    (hQ : ∀ h', Heap.ExtBut it s.heap h' → Q none { s with heap := h' }) : wpAny (model prog w) A (pyNext (.ref it)) Q E s := by
  obtain ⟨hh, o1, vs1, h1, d1, c1⟩ := hot
  have hne := not_it hit h1 d1 c1
  obtain ⟨o, ho, hc, hd⟩ := id hit
  unfold pyNext
  refine wpAny_bind (wpAny_attempt (wpAny_callSpecial?_slot (name := Str.ofString "__next__") hit.typeIs F.slot_str_ascii_iterator_next
    (wpAny_call_entry F.slot_str_ascii_iterator_next hit.typeIs F.entry_str_ascii_iterator_next ?_ (F.args_str_ascii_iterator_next_1 _))))
  show wpAny _ _ (field (.ref it) 0 >>= _) _ _ s
  refine wpAny_bind (wpAny_field ho hd (x := .str x t) rfl ?_)
  show wpAny _ _ (field (.ref it) 1 >>= _) _ _ s
  refine wpAny_bind (wpAny_field ho hd (x := .int i 0) rfl ?_)
  simp only [Int.toNat_natCast, hx]
  refine wpAny_bind (wpAny_rule (wpAny_bind (wpAny_setField ho hd (by simp) (wpAny_bind (wpAny_letGo ?_)))))
  show wpAny _ _ (newExc (.type "StopIteration") [] >>= _) _ _ _
  refine wpAny_bind ?_
  simp only [newExc, newTuple]
  refine wpAny_bind (wpAny_newObj_type ?_ (by size_fits))
  refine wpAny_bind (m := firstArgMember _ _) (wpAny_of_eq (a := Value.none) (by first | rfl | (simp only [firstArgMember]; rfl)) ?_)
  refine wpAny_newObj_type ?_ (by size_fits)
  have k1 : ∀ b ob, b ≠ it → s.heap.get? b = some ob → (s.heap.update it (Obj.mapFields (·.setIfInBounds 0 Value.none))).get? b = some ob := fun b ob hb e => by
    rw [Heap.get?_update_other _ _ (Ne.symm hb)]
    exact e
  refine raiseNew_hot ⟨hh, o1, vs1, Heap.get?_push_of_some _ (Heap.get?_push_of_some _ (k1 _ _ hne h1)), d1, c1⟩ (Nat.ne_of_lt (Heap.lt_size (Heap.get?_push_of_some _ (k1 _ _ hne h1)))) (Heap.get?_push_size _ rfl) rfl (by first | (simp; done) | (simp; omega) | (simp only [Array.size_append]; simp; omega)) ?_
  refine wpAny_bind (wpAny_isInstance (T := "StopIteration") (b := true) ⟨_, Heap.get?_update_self _ (Heap.get?_push_size _ rfl) rfl, rfl⟩ isSubtype_stop ?_)
  refine wpAny_pure (hQ _ fun b ob hb e => ?_)
  rw [Heap.get?_update_other _ _ (Nat.ne_of_gt (Heap.lt_size (Heap.get?_push_of_some _ (k1 _ _ hb e))))]
  exact Heap.get?_push_of_some _ (Heap.get?_push_of_some _ (k1 _ _ hb e))
theorem pyNext_wide_end_hot {it x1 : Addr} {x : Str} {t : Tok} {i : Nat} {Q : Option Value → Shared → Prop} (hot : HotAt A x1 s.heap)
    (hit : s.heap.IsStrIter it "str_iterator" x t i) (hx : x.cps[i]? = none)
    (hQ : ∀ h', Heap.ExtBut it s.heap h' → Q none { s with heap := h' }) : wpAny (model prog w) A (pyNext (.ref it)) Q E s := by
  obtain ⟨hh, o1, vs1, h1, d1, c1⟩ := hot
  have hne := not_it hit h1 d1 c1
  obtain ⟨o, ho, hc, hd⟩ := id hit
  unfold pyNext
  refine wpAny_bind (wpAny_attempt (wpAny_callSpecial?_slot (name := Str.ofString "__next__") hit.typeIs F.slot_str_iterator_next
    (wpAny_call_entry F.slot_str_iterator_next hit.typeIs F.entry_str_iterator_next ?_ (F.args_str_iterator_next_1 _))))
  show wpAny _ _ (field (.ref it) 0 >>= _) _ _ s
  refine wpAny_bind (wpAny_field ho hd (x := .str x t) rfl ?_)
  show wpAny _ _ (field (.ref it) 1 >>= _) _ _ s
  refine wpAny_bind (wpAny_field ho hd (x := .int i 0) rfl ?_)
  simp only [Int.toNat_natCast, hx]
  refine wpAny_bind (wpAny_rule (wpAny_bind (wpAny_setField ho hd (by simp) (wpAny_bind (wpAny_letGo ?_)))))
  show wpAny _ _ (newExc (.type "StopIteration") [] >>= _) _ _ _
  refine wpAny_bind ?_
  simp only [newExc, newTuple]
  refine wpAny_bind (wpAny_newObj_type ?_ (by size_fits))
  refine wpAny_bind (m := firstArgMember _ _) (wpAny_of_eq (a := Value.none) (by first | rfl | (simp only [firstArgMember]; rfl)) ?_)
  refine wpAny_newObj_type ?_ (by size_fits)
  have k1 : ∀ b ob, b ≠ it → s.heap.get? b = some ob → (s.heap.update it (Obj.mapFields (·.setIfInBounds 0 Value.none))).get? b = some ob := fun b ob hb e => by
    rw [Heap.get?_update_other _ _ (Ne.symm hb)]
    exact e
  refine raiseNew_hot ⟨hh, o1, vs1, Heap.get?_push_of_some _ (Heap.get?_push_of_some _ (k1 _ _ hne h1)), d1, c1⟩ (Nat.ne_of_lt (Heap.lt_size (Heap.get?_push_of_some _ (k1 _ _ hne h1)))) (Heap.get?_push_size _ rfl) rfl (by first | (simp; done) | (simp; omega) | (simp only [Array.size_append]; simp; omega)) ?_
  refine wpAny_bind (wpAny_isInstance (T := "StopIteration") (b := true) ⟨_, Heap.get?_update_self _ (Heap.get?_push_size _ rfl) rfl, rfl⟩ isSubtype_stop ?_)
  refine wpAny_pure (hQ _ fun b ob hb e => ?_)
  rw [Heap.get?_update_other _ _ (Nat.ne_of_gt (Heap.lt_size (Heap.get?_push_of_some _ (k1 _ _ hb e))))]
  exact Heap.get?_push_of_some _ (Heap.get?_push_of_some _ (k1 _ _ hb e))
end
end HotX
namespace L2H
open PySem PySem.Spec PyProof.Rows L2 HotX
theorem turn_strH {P : Program} {w : World} {K : PySem.W.Frag} {tg : Expr} (it : Addr) (x : Str) (t : Tok) (ty : String) (hty : ty = "str_ascii_iterator" ∨ ty = "str_iterator") :
    TurnH P w K tg (Its x) [it] it (fun i h => h.IsStrIter it ty x t i) where
  mem := by simp
  obj := fun i h st b hb => by
    have e : b = it := by simpa using hb
    subst e
    obtain ⟨o, e, c, d⟩ := st
    exact ⟨o, e, fun v z => by rw [d] at z; cases z⟩
  keep := fun i h h' st k => let ⟨o, ho, r⟩ := st; ⟨o, k it (by simp) o ho, r⟩
  item := by
    intro X hP hw hK hc i pins s σ H E I hf st hg
    subst hP hw hK
    obtain ⟨f0, f1, f2, f3, f4, f5⟩ := hf it (by simp)
    have hlt : i < x.cps.size := hg
    have hcx : x.cps[i]? = some x.cps[i] := Array.getElem?_eq_getElem hlt
    rcases hty with e | e
    · subst e
      refine wpAny_pyNext_ascii_item st hcx fun h' st' sb => ?_
      have I1 : Inv X pins σ H { s with heap := h', toks := s.toks + 1 } := I.turned (fun b o hb e => (sb.2 b hb).trans e) f0 f1 f3 f4 f5
      obtain ⟨oi, e, cc, dd⟩ := id st'
      exact ⟨_, rfl, go_of (s := { s with heap := h', toks := s.toks + 1 }) e cc dd (by decide) ⟨.str ⟨#[x.cps[i]]⟩, H, I1, ⟨s.toks, rfl⟩, ⟨rfl, _, hcx, rfl⟩, st', fun b hb => (hf b hb).1⟩⟩
    · subst e
      refine wpAny_pyNext_wide_item st hcx fun h' st' sb => ?_
      have I1 : Inv X pins σ H { s with heap := h', toks := s.toks + 1 } := I.turned (fun b o hb e => (sb.2 b hb).trans e) f0 f1 f3 f4 f5
      obtain ⟨oi, e, cc, dd⟩ := id st'
      exact ⟨_, rfl, go_of (s := { s with heap := h', toks := s.toks + 1 }) e cc dd (by decide) ⟨.str ⟨#[x.cps[i]]⟩, H, I1, ⟨s.toks, rfl⟩, ⟨rfl, _, hcx, rfl⟩, st', fun b hb => (hf b hb).1⟩⟩
  done := by
    intro X hP hw hK hc i pins s σ H E I hf st hg
    subst hP hw hK
    obtain ⟨f0, f1, f2, f3, f4, f5⟩ := hf it (by simp)
    obtain ⟨x1, hot⟩ := hc.at I
    have hx : x.cps[i]? = none := Array.getElem?_eq_none hg
    rcases hty with e | e
    · rw [e] at st
      exact pyNext_ascii_end_hot hot st hx fun h' eb => ⟨rfl, I.turned (t' := s.toks) (fun b o hb e => eb b o hb e) f0 f1 f3 f4 f5⟩
    · rw [e] at st
      exact pyNext_wide_end_hot hot st hx fun h' eb => ⟨rfl, I.turned (t' := s.toks) (fun b o hb e => eb b o hb e) f0 f1 f3 f4 f5⟩
  self := fun A i s Q E st h => by
    rcases hty with e | e
    · rw [e] at st; exact wpAny_pyIter_striter_ascii st h
    · rw [e] at st; exact wpAny_pyIter_striter_wide st h
theorem str_itH {X : Cx} {tg : Expr} {pins : List (Addr × Obj)} {σ : St} {H : Hp} {s : Shared} {R : It → Hp → Prop} {x : Str} {t : Tok} {tk : Nat} {ty : String} (hty : ty = "str_ascii_iterator" ∨ ty = "str_iterator") (I : Inv X pins σ H s) (q : R (Its x) H) :
    PIEH X pins σ tg R (.ref s.heap.objs.size) { s with heap := s.heap.push { cls := .type ty, data := .fields #[.str x t, .int 0 0] }, toks := tk } := by
  have I1 : Inv X pins σ H { s with heap := s.heap.push { cls := .type ty, data := .fields #[.str x t, .int 0 0] }, toks := tk } := I.kept fun b o e => Heap.get?_push_of_some _ e
  refine ⟨s.heap.objs.size, [s.heap.objs.size], _, _, H, rfl, I1, turn_strH _ x t ty hty, ⟨_, Heap.get?_push_size _ rfl, rfl, rfl⟩, fun b hb => ?_, q⟩
  have e : b = s.heap.objs.size := by simpa using hb
  subst e
  exact I.fpOk (Nat.le_refl _) (I.hok.fresh (Nat.le_refl _))
theorem pi_strH {X : Cx} {tg e : Expr} {te : TE} (he : PE X e te) : PIH X tg e (iStr te) := by
  refine ⟨fun pins s σ H R I h => ?_⟩
  refine thn (he.run pins s σ H _ I h) fun v s1 ⟨y, H1, I1, r1, x, ex, q⟩ => ?_
  subst ex
  obtain ⟨t, rfl⟩ := r1
  cases ha : x.cps.all (· < 128)
  · exact wpAny_pyIter_wide ha (str_itH (tk := s1.toks) (.inr rfl) I1 q)
  · exact wpAny_pyIter_ascii ha (str_itH (tk := s1.toks) (.inl rfl) I1 q)
end L2H
namespace Z
open PySem PySem.Spec L2
theorem cxH_K {CX : CXT} {P : Program} {w : World} {K : PySem.W.Frag} {mg : Str → Option Value} {base : Heap} {N : List Str} {qual : Str} {scope : Scope} {f : Addr} {cd : Value} {A : Around} {outer : List Env} {s : Shared} {H : Hp} {E : XK} {p : Addr × Obj} :
    (L2H.cxH CX P w K mg base N qual scope f cd A outer s H E p).K = K := rfl
end Z
set_option Elab.async false
set_option linter.all false
set_option maxRecDepth 100000
set_option maxHeartbeats 4000000
namespace Z
open PySem PySem.Spec L2
section
variable {J : Jx} {M : Ms} {P : Ent → Ms → Prop} {X : Cx} {K : PySem.W.Frag}
/-! ## min, max of a list -/
theorem kMinL (h : X.K = K) (hc : X.calm = true) : CallR X (.builtin "min") (rMin K) := h ▸ cr_min hc
theorem kMaxL (h : X.K = K) (hc : X.calm = true) : CallR X (.builtin "max") (rMax K) := h ▸ cr_max hc
theorem n_minL {x : Ent} {ds : List PyData} {ns : List Int} (hd : LD M x ds) (he : ds = ns.map PyData.int) (hn : 0 < ns.length) (p : P (.d (.int (minI ns))) M) : ON J (rMin J.K) [x] M P := fun F Z H vs m xr r1 Q q => by
  subst he
  cases r1 with
  | cons r0 rt =>
    cases rt
    obtain ⟨a, vs, rfl, e, rs⟩ := ld_ok m r0 hd
    have ev := rs.ints
    subst ev
    have hne : ns ≠ [] := fun z => by rw [z] at hn; exact absurd hn (by decide)
    refine ⟨_, ns, rfl, e, hn, fun m' h1 h2 => ?_⟩
    rw [min_uniq hne h1 h2]
    exact q _ F H (.d (.int _)) M (Same.refl F) m (Rp.int _) p
theorem n_maxL {x : Ent} {ds : List PyData} {ns : List Int} (hd : LD M x ds) (he : ds = ns.map PyData.int) (hn : 0 < ns.length) (p : P (.d (.int (maxI ns))) M) : ON J (rMax J.K) [x] M P := fun F Z H vs m xr r1 Q q => by
  subst he
  cases r1 with
  | cons r0 rt =>
    cases rt
    obtain ⟨a, vs, rfl, e, rs⟩ := ld_ok m r0 hd
    have ev := rs.ints
    subst ev
    have hne : ns ≠ [] := fun z => by rw [z] at hn; exact absurd hn (by decide)
    refine ⟨_, ns, rfl, e, hn, fun m' h1 h2 => ?_⟩
    rw [max_uniq hne h1 h2]
    exact q _ F H (.d (.int _)) M (Same.refl F) m (Rp.int _) p
/-! ## a list of lists of texts, compared with [] -/
theorem re_dp {F : Wd} {H Z : Hp} {v : V} {e : Ent} {ds : List PyData} (m : Mem K F M Z H) (r : RE K F v e) (h : LD M e ds) (hn : noObjs ds = true) : Dp K H v (.list ds) := by
  obtain ⟨a, vs, rfl, hs, rs⟩ := ld_ok m r h
  exact .lst hs (dpAll_mono m.sub (RpAll.dp rs hn))
theorem res_dp {F : Wd} {H Z : Hp} (m : Mem K F M Z H) : ∀ {vs : List V} {es : List Ent} {gs : List (List Str)}, REs K F vs es → Paired (fun e g => LD M e (g.map PyData.str)) es gs → DpAll K H vs (gs.map fun g => PyData.list (g.map PyData.str))
  | _, _, _, .nil, .nil => .nil
  | _, _, _, .cons r t, .cons h u => .cons (re_dp m r h (noObj_strs _)) (res_dp m t u)
theorem lay_lists : ∀ gs : List (List Str), (∀ g ∈ gs, ∀ x ∈ g, okS x = true) → PyData.canLayAll0 (gs.map fun g => PyData.list (g.map PyData.str)) = true ∧ PyData.depthAll (gs.map fun g => PyData.list (g.map PyData.str)) ≤ 1
  | [], _ => ⟨rfl, Nat.zero_le _⟩
  | g :: gs, h => by
    obtain ⟨h1, h2⟩ := lay_lists gs fun z hz => h z (List.mem_cons_of_mem _ hz)
    obtain ⟨a1, a2⟩ := lay_strs g (h g (List.mem_cons_self ..))
    refine ⟨?_, ?_⟩
    · show (PyData.canLayAll0 (g.map PyData.str) && PyData.canLayAll0 (gs.map _)) = true
      rw [a1, h1]
      rfl
    · show max (PyData.depthAll (g.map PyData.str) + 1) (PyData.depthAll (gs.map _)) ≤ 1
      rw [a2]
      omega
theorem shaped_lists (gs : List (List Str)) (h : ∀ g ∈ gs, ∀ x ∈ g, okS x = true) : SeqAt.shaped (.list (gs.map fun g => PyData.list (g.map PyData.str))) = true := by
  obtain ⟨h1, h2⟩ := lay_lists gs h
  show (PyData.canLayAll0 (gs.map _) && decide (PyData.depthAll (gs.map _) + 1 ≤ 64)) = true
  rw [h1, decide_eq_true (by omega)]
  rfl
theorem o_eqLists {n : Nat} {es : List Ent} {gs : List (List Str)} (hm : M[n]? = some (some (.lsE es))) (hp : Paired (fun e g => LD M e (g.map PyData.str)) es gs) (hg : ∀ g ∈ gs, ∀ x ∈ g, okS x = true) (hne : gs ≠ []) (p : P (.d (.bool false)) M) : O2 J (rEqU J.K) (.r n) (.d (.list [])) M P := o_r fun F Z H v u m xr r1 r2 Q q => by
  obtain ⟨a, vs, ea, nF, eH, rs⟩ := m.lsE hm
  obtain ⟨b, eb, rfl⟩ := r1
  rw [ea] at eb
  cases eb
  have d1 : Dp J.K H (.ref a) (.list (gs.map fun g => PyData.list (g.map PyData.str))) := .lst (.inl (.inl eH)) (res_dp m rs hp)
  have d2 := dv_ok m r2 (DV.d (M := M) (x := .list [])) rfl
  refine ⟨_, _, d1, d2, shaped_lists gs hg, rfl, ?_⟩
  have e : PyData.eqv (.list (gs.map fun g => PyData.list (g.map PyData.str))) (.list []) = false := by
    cases gs with
    | nil => exact absurd rfl hne
    | cons g gs => rfl
  rw [e]
  exact q _ F H (.d (.bool false)) M (Same.refl F) m (Rp.bl _) p
/-! ## a list of texts, compared with [] -/
theorem eqv_nilS (xs : List Str) : PyData.eqv (.list (xs.map PyData.str)) (.list []) = decide (xs = []) := by
  cases xs with
  | nil => rfl
  | cons x xs => rfl
theorem o_eqNilS {x : Ent} {ds : List PyData} {xs : List Str} (hd : DV M x (.list ds)) (hs : ds = xs.map PyData.str) (ho : ∀ x ∈ xs, okS x = true) (p : P (.d (.bool (decide (xs = [])))) M) : O2 J (rEqU J.K) x (.d (.list [])) M P := by
  subst hs
  exact o_eqL hd DV.d (noObj_strs _) rfl (shaped_strs _ ho) rfl (by rw [eqv_nilS]; exact p)
theorem o_neNilS {x : Ent} {ds : List PyData} {xs : List Str} (hd : DV M x (.list ds)) (hs : ds = xs.map PyData.str) (ho : ∀ x ∈ xs, okS x = true) (p : P (.d (.bool (!decide (xs = [])))) M) : O2 J (rNeU J.K) x (.d (.list [])) M P := by
  subst hs
  exact o_neL hd DV.d (noObj_strs _) rfl (shaped_strs _ ho) rfl (by rw [eqv_nilS]; exact p)
theorem eqv_nilI (xs : List Int) : PyData.eqv (.list (xs.map PyData.int)) (.list []) = decide (xs = []) := by
  cases xs with
  | nil => rfl
  | cons x xs => rfl
end
end Z
set_option Elab.async false
set_option linter.all false
set_option maxRecDepth 100000
set_option maxHeartbeats 4000000
namespace Z
open PySem PySem.Spec L2
section
variable {J : Jx} {M : Ms} {P : Ent → Ms → Prop} {X : Cx} {K : PySem.W.Frag}
/-! ## tuple(a list) -/
abbrev rTupU (K : PySem.W.Frag) : List V → Hp → VK → Prop := fun xs H Q => ∃ p ys, xs = [.ref p] ∧ ((SqL K H p ys ∧ ∀ l, H l = none → Q (.ref l) (upd H l (.tup ys))) ∨ (SqT K H p ys ∧ Q (.ref p) H))
theorem kTup (h : X.K = K) : CallR X (.type "tuple") (rTupU K) := h ▸ call_tuple_of
theorem n_tup {x : Ent} {ds : List PyData} (hd : LD M x ds) (p : P (.d (.tuple ds)) M) : ON J (rTupU J.K) [x] M P := fun F Z H vs m xr r1 Q q => by
  cases r1 with
  | cons r0 rt =>
    cases rt
    obtain ⟨a, vs, rfl, e, rs⟩ := ld_ok m r0 hd
    refine ⟨_, _, rfl, .inl ⟨e, fun a n => ?_⟩⟩
    obtain ⟨s3, m3⟩ := m.newF (o := .tup _) n
    exact q _ _ _ (.d (.tuple ds)) M s3 m3 (Rp.tup (.inl (.inl upd_same)) (rs.mono s3)) p
/-! ## nested data, compared by an own recursion -/
def alkB : Nat → PyData → Bool
  | _, .str _ => true
  | _, .int _ => true
  | _, .none => true
  | n + 1, .list ds => Nat.ble ds.length 1000 && ds.all (alkB n)
  | n + 1, .tuple ds => Nat.ble ds.length 1000 && ds.all (alkB n)
  | _, _ => false
theorem alk_list {n : Nat} {ds : List PyData} (h : alkB (n + 1) (.list ds) = true) : ds.length ≤ 1000 ∧ ∀ d ∈ ds, alkB n d = true := by
  have h2 : (Nat.ble ds.length 1000 && ds.all (alkB n)) = true := h
  rw [Bool.and_eq_true] at h2
  exact ⟨Nat.le_of_ble_eq_true h2.1, List.all_eq_true.mp h2.2⟩
theorem alk_tuple {n : Nat} {ds : List PyData} (h : alkB (n + 1) (.tuple ds) = true) : ds.length ≤ 1000 ∧ ∀ d ∈ ds, alkB n d = true := alk_list (n := n) h
theorem alk_all {n : Nat} {ds : List PyData} (h1 : ds.length ≤ 1000) (h2 : ∀ d ∈ ds, alkB n d = true) : alkB (n + 1) (.list ds) = true := by
  show (Nat.ble ds.length 1000 && ds.all (alkB n)) = true
  rw [Bool.and_eq_true]
  exact ⟨Nat.ble_eq_true_of_le h1, List.all_eq_true.mpr h2⟩
theorem alk_noObj : ∀ (n : Nat) (d : PyData), alkB n d = true → noObj d = true := by
  have aux : ∀ (n : Nat), (∀ d : PyData, alkB n d = true → noObj d = true) → ∀ ds : List PyData, (∀ d ∈ ds, alkB n d = true) → noObjs ds = true := by
    intro n ih ds
    induction ds with
    | nil => intro _; rfl
    | cons d ds ihl =>
      intro h
      show (noObj d && noObjs ds) = true
      rw [ih d (h d (List.mem_cons_self ..)), ihl fun x hx => h x (List.mem_cons_of_mem _ hx)]
      rfl
  intro n
  induction n with
  | zero =>
    intro d h
    cases d with
    | none => rfl
    | str s => rfl
    | int i => rfl
    | _ => cases h
  | succ n ih =>
    intro d h
    cases d with
    | none => rfl
    | str s => rfl
    | int i => rfl
    | list ds => exact aux n ih ds (alk_list h).2
    | tuple ds => exact aux n ih ds (alk_tuple h).2
    | _ => cases h
/-! ## a default `()` -/
def atupB (K : PySem.W.Frag) (a : Addr) : Bool := match K.lookup a with
  | some ⟨.type c, _, .seq its _, _⟩ => decide (c = "tuple") && (decide (its.size ≤ sizeLine) && He.relAll [] its.toList)
  | _ => false
theorem atupB_ok {K : PySem.W.Frag} {a : Addr} (h : atupB K a = true) (H : Hp) : SqT K H a [] := by
  unfold atupB at h
  cases q : K.lookup a with
  | none =>
    rw [q] at h
    cases h
  | some o =>
    obtain ⟨oc, od, dt, osl⟩ := o
    rw [q] at h
    cases oc with
    | type c =>
      cases dt with
      | seq its n =>
        have h0 : (decide (c = "tuple") && (decide (its.size ≤ sizeLine) && He.relAll [] its.toList)) = true := h
        rw [Bool.and_eq_true, Bool.and_eq_true] at h0
        obtain ⟨h1, h3, h4⟩ := h0
        exact .inr ⟨_, its, n, q, congrArg Value.type (of_decide_eq_true h1), rfl, of_decide_eq_true h3, He.relAll_ok h4⟩
      | _ => cases h
    | _ => cases dt <;> cases h
def fDflT (f : Str × Option Str) (i : Nat) : Fct := fun K => atupB K (He.dflAt f i K)
theorem s_dflT {J : Jx} {t : TS} {D : Nd} {Γ : Ga} {M : Ms} {a : Addr} (i : Nat) (hΓ : Γ[i]? = some (some (.g a))) (hs : ∀ H, SqT J.K H a []) (h : Sx J t D (Γ.set i (some (.d (.tuple [])))) M) : Sx J t D Γ M := fun F Z σ H C en m x d => by
  obtain ⟨o, e1, v, e2, r⟩ := paired_get en hΓ
  subst e2
  have hv : v = V.ref a := r
  subst hv
  have en2 := en.set i (show RE J.K F (V.ref a) (.d (.tuple [])) from Rp.tup (hs F.F) .nil)
  have e3 : σ.set i (some (V.ref a)) = σ := by
    obtain ⟨hi, e4⟩ := List.getElem?_eq_some_iff.mp e1
    rw [← e4]
    exact List.set_getElem_self hi
  rw [e3] at en2
  exact h F Z σ H C en2 m x d
/-! ## a, b, .. = a list -/
theorem g_unl {Γ : Ga} {n : Nat} {gs : TGs} {x : Ent} {ds : List PyData} {P : Ga → Ms → Prop} (hd : LD M x ds) (hn : ds.length = n) (h : GTs J gs (ds.map Ent.d) Γ M P) : GT J (gUnl J.K n gs) x Γ M P := fun F Z σ H v en m xr r Q q => by
  obtain ⟨a, vs, rfl, e, rs⟩ := ld_ok m r hd
  exact ⟨_, _, rfl, e, by rw [rs.length]; exact hn, h F Z σ H _ en m xr (res_of rs) Q q⟩
/-! ## s.replace(one sign, nothing) -/
theorem repl_filter (c : Nat) : ∀ l : List Nat, StrLaws.replL [c] [] l = l.filter fun d => !decide (d = c)
  | [] => StrLaws.replL_nil
  | d :: r => by
    by_cases h : d = c
    · have e : (d :: r).take [c].length = [c] := by rw [h]; rfl
      rw [StrLaws.replL_hit (by simp) e, List.filter_cons]
      simp only [h, decide_true, Bool.not_true]
      show StrLaws.replL [c] [] r = _
      rw [repl_filter c r]
      rfl
    · have e : ¬ (d :: r).take [c].length = [c] := fun q => h (by
        have q2 : [d] = [c] := q
        exact (List.cons.inj q2).1)
      rw [StrLaws.replL_miss e, List.filter_cons, repl_filter c r]
      simp only [decide_eq_false h, Bool.not_false, if_true]
theorem replace_filter (s : Str) (c : Nat) : cs (Txt.replace s ⟨#[c]⟩ ⟨#[]⟩) = (cs s).filter fun d => !decide (d = c) := by
  have h := StrLaws.replace_list (x := s) (y := ⟨#[c]⟩) (z := ⟨#[]⟩) (Nat.le_refl 1)
  exact h.trans (repl_filter c _)
end
end Z
set_option Elab.async false
set_option linter.all false
set_option maxRecDepth 100000
set_option maxHeartbeats 4000000
namespace Z
open PySem PySem.Spec L2 PyProof.Rows
section
variable {J : Jx} {M : Ms} {P : Ent → Ms → Prop} {X : Cx} {K : PySem.W.Frag}
/-! ## sorted(a list of texts), sorted(a list of ints): below 64 items -/
theorem kSortS (h : X.K = K) : CallR X (.builtin "sorted") (rSortedS K) := h ▸ cr_sortedS
theorem kSortI (h : X.K = K) : CallR X (.builtin "sorted") (rSorted K) := h ▸ cr_sorted
/-- what the walk asks for, with a head of its own -/
def SortSK (M : Ms) (xs : List Str) (P : Ent → Ms → Prop) : Prop := ∀ ys : List Str, ys.Perm xs → sortedS ys = true → P (.d (.list (ys.map PyData.str))) M
theorem n_sortS {x : Ent} {ds : List PyData} {xs : List Str} (hd : LD M x ds) (he : ds = xs.map PyData.str) (hl : xs.length < 64) (p : SortSK M xs P) : ON J (rSortedS J.K) [x] M P := fun F Z H vs m xr r1 Q q => by
  subst he
  cases r1 with
  | cons r0 rt =>
    cases rt
    obtain ⟨a, vs, rfl, e, rs⟩ := ld_ok m r0 hd
    have ev := rs.strs
    subst ev
    refine ⟨a, xs, rfl, e, hl, fun ys a2 h1 h2 n => ?_⟩
    obtain ⟨s3, m3⟩ := m.newF (o := .lst _) n
    exact q _ _ _ (.d (.list (ys.map PyData.str))) M s3 m3 (Rp.lst upd_same (RpAll.ofStrs ys)) (p ys h1 h2)
theorem n_sortSM {x : Ent} {ds : List PyData} {xs : List Str} (hd : LD M x ds) (he : ds = xs.map PyData.str) (hl : xs.length < 64) (p : ∀ ys : List Str, ys.Perm xs → sortedS ys = true → P (.r M.length) (M ++ [some (.lst (ys.map PyData.str))])) : ONM J (rSortedS J.K) [x] M P := fun F Z H vs m xr r1 Q q => by
  subst he
  cases r1 with
  | cons r0 rt =>
    cases rt
    obtain ⟨a, vs, rfl, e, rs⟩ := ld_ok m r0 hd
    have ev := rs.strs
    subst ev
    refine ⟨a, xs, rfl, e, hl, fun ys a2 h1 h2 n => ?_⟩
    obtain ⟨s3, m3, r3⟩ := m.newM (o := .lst _) (m := .lst (ys.map PyData.str)) n ⟨_, rfl, RpAll.ofStrs ys⟩
    exact q _ _ _ (.r M.length) _ s3 m3 r3 (p ys h1 h2)
theorem n_sortI {x : Ent} {ds : List PyData} {ns : List Int} (hd : LD M x ds) (he : ds = ns.map PyData.int) (hl : ns.length < 64) (p : ∀ ms : List Int, ms.Perm ns → ms.Pairwise (· ≤ ·) → P (.d (.list (ms.map PyData.int))) M) : ON J (rSorted J.K) [x] M P := fun F Z H vs m xr r1 Q q => by
  subst he
  cases r1 with
  | cons r0 rt =>
    cases rt
    obtain ⟨a, vs, rfl, e, rs⟩ := ld_ok m r0 hd
    have ev := rs.ints
    subst ev
    refine ⟨a, ns, rfl, e, hl, fun ms a2 h1 h2 n => ?_⟩
    obtain ⟨s3, m3⟩ := m.newF (o := .lst _) n
    exact q _ _ _ (.d (.list (ms.map PyData.int))) M s3 m3 (Rp.lst upd_same (RpAll.ofInts ms)) (p ms h1 h2)
/-! two sorted lists with the same texts are the same -/
def leS (a b : Str) : Prop := ¬ cs b < cs a
theorem leS_trans {a b c : Str} (h1 : leS a b) (h2 : leS b c) : leS a c := List.le_trans (l₁ := cs a) (l₂ := cs b) (l₃ := cs c) h1 h2
theorem leS_anti {a b : Str} (h1 : leS a b) (h2 : leS b a) : a = b := cs_inj (List.le_antisymm (as := cs a) (bs := cs b) h1 h2)
theorem rising_pw : ∀ (p : Str) (l : List Str), risingS p l = true → (p :: l).Pairwise leS
  | p, [], _ => List.pairwise_cons.mpr ⟨(fun _ h => nomatch h), List.Pairwise.nil⟩
  | p, x :: r, h => by
    have h0 : (!Spec.ltCps x.cps.toList p.cps.toList && risingS x r) = true := h
    rw [Bool.and_eq_true, Bool.not_eq_true'] at h0
    have h1 : leS p x := by
      have := h0.1
      rw [ltCps_eq, decide_eq_false_iff_not] at this
      exact this
    have h2 := rising_pw x r h0.2
    refine List.pairwise_cons.mpr ⟨fun y hy => ?_, h2⟩
    rcases List.mem_cons.mp hy with rfl | hy
    · exact h1
    · exact leS_trans h1 ((List.pairwise_cons.mp h2).1 y hy)
theorem sorted_pw : ∀ (l : List Str), sortedS l = true → l.Pairwise leS
  | [], _ => List.Pairwise.nil
  | x :: r, h => rising_pw x r h
theorem sortS_uniq {ys zs : List Str} (hp : ys.Perm zs) (h1 : sortedS ys = true) (h2 : sortedS zs = true) : ys = zs :=
  List.Perm.eq_of_pairwise (le := leS) (fun _ _ _ _ a b => leS_anti a b) (sorted_pw ys h1) (sorted_pw zs h2) hp
end
end Z
set_option Elab.async false
set_option linter.all false
set_option maxRecDepth 100000
set_option maxHeartbeats 4000000
namespace Z
open PySem PySem.Spec L2 PyProof.Rows
/-! ## sorted(a list of pairs (text, int)) -/
def lexS (p q : Str × Int) : Bool := if p.1 = q.1 then decide (p.2 < q.2) else decide (p.1.cps.toList < q.1.cps.toList)
theorem lexS_iff {p q : Str × Int} : lexS p q = true ↔ cs p.1 < cs q.1 ∨ (p.1 = q.1 ∧ p.2 < q.2) := by
  unfold lexS
  by_cases e : p.1 = q.1
  · rw [if_pos e, decide_eq_true_eq]
    constructor
    · exact fun h => .inr ⟨e, h⟩
    · rintro (h | h)
      · rw [e] at h
        exact absurd h (List.lt_irrefl _)
      · exact h.2
  · rw [if_neg e, decide_eq_true_eq]
    constructor
    · exact fun h => .inl h
    · rintro (h | h)
      · exact h
      · exact absurd h.1 e
theorem lexS_no {p q : Str × Int} : lexS p q = false ↔ ¬ (cs p.1 < cs q.1 ∨ (p.1 = q.1 ∧ p.2 < q.2)) := by
  rw [← lexS_iff]
  cases lexS p q <;> simp
theorem swo_lexS {α : Type} (k : α → Str × Int) : SrtO.Swo fun v u => lexS (k v) (k u) := by
  refine ⟨fun x y h => ?_, fun x y z h1 h2 => ?_⟩
  · have a := lexS_iff.mp h
    refine lexS_no.mpr ?_
    rintro (b | b)
    · rcases a with a | a
      · exact absurd b (List.lt_asymm a)
      · rw [a.1] at b
        exact absurd b (List.lt_irrefl _)
    · rcases a with a | a
      · rw [b.1] at a
        exact absurd a (List.lt_irrefl _)
      · omega
  · have a := lexS_no.mp h1
    have b := lexS_no.mp h2
    refine lexS_no.mpr ?_
    have a1 : leS (k x).1 (k y).1 := fun q => a (.inl q)
    have b1 : leS (k y).1 (k z).1 := fun q => b (.inl q)
    rintro (c | c)
    · exact leS_trans a1 b1 c
    · have e1 : (k x).1 = (k y).1 := leS_anti a1 (by rw [← c.1]; exact b1)
      have a2 : ¬ (k y).2 < (k x).2 := fun q => a (.inr ⟨e1.symm, q⟩)
      have b2 : ¬ (k z).2 < (k y).2 := fun q => b (.inr ⟨c.1.trans e1, q⟩)
      omega
def IsPairS (h : Heap) (v : Value) (x : Str) (y : Int) : Prop := ∃ a o t u n, v = .ref a ∧ h.get? a = some o ∧ o.cls = .type "tuple" ∧ o.data = .seq #[.str x t, .int y u] n
theorem IsPairS.keeps {h h' : Heap} {v : Value} {x : Str} {y : Int} (p : IsPairS h v x y) (k : ∀ b o, h.get? b = some o → o.cls = .type "tuple" → h'.get? b = some o) : IsPairS h' v x y := by
  obtain ⟨a, o, t, u, n, e, ho, hc, hd⟩ := p
  exact ⟨a, o, t, u, n, e, k _ _ ho hc, hc, hd⟩
section
variable {prog : Program} {w : World} {A : Around} {s : Shared} {E : Value → Shared → Prop}
theorem firstsS {h : Heap} : ∀ {vs : List Value}, (∀ v ∈ vs, ∃ x y, IsPairS h v x y) → ∃ fs : List Value, PySem.W.KatTups h vs fs ∧ fs.length = vs.length ∧ ∀ f ∈ fs, ∃ x t, f = Value.str x t
  | [], _ => ⟨[], PySem.W.KatTups.nil, rfl, fun _ hm => by simp at hm⟩
  | v :: vs, hp => by
    obtain ⟨fs, h1, h2, h3⟩ := firstsS (vs := vs) fun v' hm => hp v' (List.mem_cons_of_mem _ hm)
    obtain ⟨x, y, a, o, t, u, n, e, ho, hc, hd⟩ := hp v (List.mem_cons_self ..)
    subst e
    refine ⟨.str x t :: fs, PySem.W.KatTups.cons ho hc hd rfl h1, by rw [List.length_cons, List.length_cons, h2], fun f hm => ?_⟩
    rcases List.mem_cons.mp hm with rfl | hm
    · exact ⟨x, t, rfl⟩
    · exact h3 f hm
theorem pairS_cmp {vs : List Value} {k : Value → Str × Int} (hp : ∀ v ∈ vs, IsPairS s.heap v (k v).1 (k v).2) : SrtO.Cmp prog w A s (tuples' true) (fun p => p.1 ∈ vs) (SrtO.lt2 fun v u => lexS (k v) (k u)) := by
  intro p q hm hm'
  have h1 := hp _ hm
  have h2 := hp _ hm'
  show wpAny (model prog w) A (keyLt' (tuples' true) p.1 q.1) (fun r s' => s' = s ∧ r = lexS (k p.1) (k q.1)) (fun _ _ => False) s
  unfold lexS
  generalize (k p.1).1 = x at h1 ⊢
  generalize (k p.1).2 = y at h1 ⊢
  generalize (k q.1).1 = x' at h2 ⊢
  generalize (k q.1).2 = y' at h2 ⊢
  obtain ⟨a, o, t, u, n, e, ho, hc, hd⟩ := h1
  obtain ⟨a', o', t', u', n', e', ho', hc', hd'⟩ := h2
  rw [e, e']
  refine PySem.W.kat_lt ho hd ho' hd' ?_
  show PySem.W.KatLex prog w A true (decide (2 < 2)) _ [(.str x t, .str x' t'), (.int y u, .int y' u')] 0 s
  refine PySem.W.kat_cons (SeqAt.EqAt.str_str x t x' t' prog w _ _ ?_)
  refine PySem.W.kat_go (fun e1 => ?_) (fun e1 => ?_)
  · have ex : x = x' := by simpa using e1
    refine PySem.W.kat_yes (PySem.W.kat_cons (SeqAt.EqAt.int_int y u y' u' prog w _ _ ?_))
    refine PySem.W.kat_go (fun e2 => ?_) (fun e2 => ?_)
    · have ey : y = y' := by simpa using e2
      have e3 : (if x = x' then decide (y < y') else decide (x.cps.toList < x'.cps.toList)) = false := by
        rw [if_pos ex, ey]
        exact decide_eq_false (Int.lt_irrefl _)
      exact PySem.W.kat_yes (PySem.W.kat_nil ⟨rfl, e3.symm⟩)
    · have e3 : (if x = x' then decide (y < y') else decide (x.cps.toList < x'.cps.toList)) = decide (y < y') := if_pos ex
      refine PySem.W.kat_no (PySem.W.kat_one _ _ (PyProof.Rows.lt_int ?_))
      exact (show s = s ∧ decide (y < y') = (if x = x' then decide (y < y') else decide (x.cps.toList < x'.cps.toList)) from ⟨rfl, e3.symm⟩)
  · have ex : ¬ x = x' := by simpa using e1
    have e3 : (if x = x' then decide (y < y') else decide (x.cps.toList < x'.cps.toList)) = decide (x.cps.toList < x'.cps.toList) := if_neg ex
    exact PySem.W.kat_no (oneLt_str ⟨rfl, e3.symm⟩)
theorem pairsS_sortable {a : Addr} {vs : List Value} {k : Value → Str × Int} (h0 : 0 < vs.length) (hp : ∀ v ∈ vs, IsPairS s.heap v (k v).1 (k v).2) (ha : ∀ o, s.heap.get? a = some o → o.cls ≠ .type "tuple") : SrtO.SortableO prog w A s a vs fun v u => lexS (k v) (k u) := by
  intro h' keep
  have hp' : ∀ v ∈ vs, IsPairS h' v (k v).1 (k v).2 := fun v hm => (hp v hm).keeps fun b o e c => keep b o (fun z => by subst z; exact ha o e c) e
  obtain ⟨fs, h1, h2, h3⟩ := firstsS fun v hm => ⟨_, _, hp' v hm⟩
  refine ⟨tuples' true, fun Q E hq => ?_, pairS_cmp hp'⟩
  refine PySem.W.kat_kind (T := .type "str") h1 (by omega) (fun f hm => ?_) (by rfl) ?_
  · obtain ⟨x, t, rfl⟩ := h3 f hm
    exact PySem.W.Looks.now
  · have e : (Value.type "str" != Value.type "tuple") = true := by first | decide +kernel | rfl | decide
    rw [e]
    exact hq
theorem sorted_pairsS {l : Addr} {vs : List Value} {k : Value → Str × Int} {Q : Value → Shared → Prop} (hl : s.heap.IsList l vs.toArray) (hz : vs.length ≤ sizeLine) (hp : ∀ v ∈ vs, IsPairS s.heap v (k v).1 (k v).2)
    (h : ∀ (h' : Heap) (d : Addr) (out : List Value), SrtO.Srtd (fun v u => lexS (k v) (k u)) out → SrtO.Stb (fun v u => lexS (k v) (k u)) out vs → (∀ b o, s.heap.get? b = some o → h'.get? b = some o) → s.heap.objs.size ≤ d → (∃ n, h'.get? d = some (seqObj "list" out.toArray n)) → Q (.ref d) { s with heap := h' }) :
    wpAny (model prog w) A (call (.builtin "sorted") [.ref l]) Q E s := by
  refine SrtO.sorted_ord (swo_lexS k) hl hz (fun h2 h₁ a ha kk => ?_) fun out hs hb => ?_
  · refine pairsS_sortable (s := { s with heap := h₁ }) (by omega) (fun v hm => (hp v hm).keeps fun b o e _ => (kk b o e).2) fun o e => ?_
    have e' : some o = some (seqObj "list" vs.toArray 0) := e.symm.trans ha
    cases e'
    intro c
    exact absurd (Value.type.inj c) (by decide)
  · exact h _ _ out hs hb (fun b o e => sortedAll_old e) (Nat.le_succ _) (sortedAll_at s.heap vs out.toArray)
end
/-! ### as a rule of the layer -/
theorem pairS_fun {h : Heap} {v : Value} {x x' : Str} {y y' : Int} (p : IsPairS h v x y) (q : IsPairS h v x' y') : x = x' ∧ y = y' := by
  obtain ⟨a, o, t, u, n, rfl, ho, hc, hd⟩ := p
  obtain ⟨a', o', t', u', n', e, ho', hc', hd'⟩ := q
  cases e
  rw [ho] at ho'
  cases ho'
  rw [hd] at hd'
  cases hd'
  exact ⟨rfl, rfl⟩
/-- the pair that stands at a value -/
noncomputable def keyH (h : Heap) (v : Value) : Str × Int := by
  classical
  exact if e : ∃ p : Str × Int, IsPairS h v p.1 p.2 then Classical.choose e else ("", 0)
theorem keyH_eq {h : Heap} {v : Value} {p : Str × Int} (q : IsPairS h v p.1 p.2) : keyH h v = p := by
  have e : ∃ p : Str × Int, IsPairS h v p.1 p.2 := ⟨p, q⟩
  unfold keyH
  rw [dif_pos e]
  have h2 := Classical.choose_spec e
  obtain ⟨a, b⟩ := pairS_fun h2 q
  exact Prod.ext a b
/-- the value stands for the pair -/
def IsSI (K : PySem.W.Frag) (H : Hp) (x : V) (p : Str × Int) : Prop := ∃ t, x = V.ref t ∧ SqT K H t [.str p.1, .int p.2]
def rSortedSI (K : PySem.W.Frag) : List V → Hp → VK → Prop := fun vs H Q => ∃ (a : Addr) (xs : List V) (ps : List (Str × Int)) (R : V → Str × Int → Prop), vs = [V.ref a] ∧ SqL K H a xs ∧ (∀ x p, R x p → IsSI K H x p) ∧ Paired R xs ps ∧
  ∀ ys qs p, Paired R ys qs → qs.Perm ps → qs.Pairwise (fun a b => lexS b a = false) → H p = none → Q (.ref p) (upd H p (.lst ys))
theorem paired_memL {α β : Type} {R : α → β → Prop} : ∀ {xs : List α} {ys : List β}, Paired R xs ys → ∀ x ∈ xs, ∃ y, R x y
  | _, _, .nil, x, h => nomatch h
  | _, _, .cons r t, x, h => by
    rcases List.mem_cons.mp h with rfl | h
    · exact ⟨_, r⟩
    · exact paired_memL t x h
theorem paired_maps {α β γ : Type} {R : β → γ → Prop} {f : α → β} {g : α → γ} : ∀ {l : List α}, Paired R (l.map f) (l.map g) → ∀ v ∈ l, R (f v) (g v)
  | [], _, v, h => nomatch h
  | x :: l, p, v, h => by
    cases p with
    | cons r t =>
      rcases List.mem_cons.mp h with rfl | h
      · exact r
      · exact paired_maps t v h
theorem paired_of_maps {α β γ : Type} {R : β → γ → Prop} {f : α → β} {g : α → γ} : ∀ {l : List α}, (∀ v ∈ l, R (f v) (g v)) → Paired R (l.map f) (l.map g)
  | [], _ => .nil
  | x :: l, h => .cons (h x (List.mem_cons_self ..)) (paired_of_maps fun v hv => h v (List.mem_cons_of_mem _ hv))
section
variable {X : Cx}
theorem vals_keys {pins : List (Addr × Obj)} {s : Shared} {σ : L2.St} {H : Hp} (I : L2.Inv X pins σ H s) {R : V → Str × Int → Prop} (hR : ∀ x p, R x p → IsSI X.K H x p) : ∀ {xs : List V} {its : List Value} {ps : List (Str × Int)}, Vals xs its → Paired R xs ps → its.map (keyH s.heap) = ps ∧ ∀ v ∈ its, IsPairS s.heap v (keyH s.heap v).1 (keyH s.heap v).2
  | _, _, _, .nil, .nil => ⟨rfl, fun v h => nomatch h⟩
  | _, _, _, .cons r rs, .cons h hs => by
    obtain ⟨e, a⟩ := vals_keys I hR rs hs
    obtain ⟨t, rfl, ht⟩ := hR _ _ h
    cases r
    obtain ⟨its2, r2, pl, _⟩ := I.tuple ht
    obtain ⟨u1, u2, rfl, ri, rj⟩ := vals2 r2
    obtain ⟨t1, rfl⟩ := ri
    obtain ⟨t2, rfl⟩ := rj
    obtain ⟨o, ho, hc, n, hd⟩ := pl
    have hp : IsPairS s.heap (Value.ref t) _ _ := ⟨t, o, t1, t2, n, rfl, ho, hc, hd⟩
    have hk := keyH_eq (p := (_, _)) hp
    refine ⟨by rw [List.map_cons, e, hk], fun v hv => ?_⟩
    rcases List.mem_cons.mp hv with rfl | hv
    · rw [hk]; exact hp
    · exact a v hv
theorem cr_sortedSI : CallR X (.builtin "sorted") (rSortedSI X.K) := by
  intro pins s σ H vs us Q I r h
  obtain ⟨a, xs, ps, R, rfl, hs, hR, hx, q⟩ := h
  obtain ⟨its, rv, hl, hz⟩ := I.list hs
  obtain ⟨u, rfl, ru⟩ := vals1 r
  obtain rfl : u = Value.ref a := ru
  obtain ⟨e1, e2⟩ := refs_back rv fun x m => by
    obtain ⟨p, h⟩ := paired_memL hx x m
    obtain ⟨t, e, _⟩ := hR _ _ h
    exact ⟨t, e⟩
  obtain ⟨hk, hp⟩ := vals_keys I hR rv hx
  have hall : ∀ v ∈ its, R (backV v) (keyH s.heap v) := paired_maps (by rw [← e1, hk]; exact hx)
  refine sorted_pairsS (k := keyH s.heap) hl.isList (by rw [← rv.length]; exact hz) hp fun h' d out h1 h2 kp hd hn => ?_
  have hmem : ∀ u ∈ out, u ∈ its := fun u hu => h2.perm.mem_iff.mp hu
  have h3 : ∀ u ∈ out, ∃ a, u = Value.ref a := fun u hu => e2 u (hmem u hu)
  obtain ⟨n, hn⟩ := hn
  refine ⟨.ref d, upd H d (.lst (out.map backV)), I.laid (t' := s.toks) kp hd ⟨?_, out, n, vals_back h3, hn⟩, rfl, q _ (out.map (keyH s.heap)) d (paired_of_maps fun v hv => hall v (hmem v hv)) (by rw [← hk]; exact h2.perm.map _) (List.pairwise_map.mpr h1) (I.hok.fresh hd)⟩
  rw [List.length_map, h2.perm.length_eq, ← rv.length]
  exact hz
end
abbrev prSI (p : Str × Int) : PyData := .tuple [.str p.1, .int p.2]
theorem kSortSI {X : Cx} {K : PySem.W.Frag} (h : X.K = K) : CallR X (.builtin "sorted") (rSortedSI K) := h ▸ cr_sortedSI
theorem si_of {K : PySem.W.Frag} {F : Wd} : ∀ {vs : List V} {ps : List (Str × Int)}, RpAll K F vs (ps.map prSI) → Paired (IsSI K F.F) vs ps
  | _, [], .nil => .nil
  | _, p :: ps, .cons r rs => by
    refine .cons ?_ (si_of rs)
    cases r with
    | tup e rs =>
      cases rs with
      | cons r1 rs =>
        cases rs with
        | cons r2 rs =>
          cases rs
          cases r1
          cases r2
          exact ⟨_, rfl, e⟩
theorem of_si {K : PySem.W.Frag} {F : Wd} : ∀ {vs : List V} {ps : List (Str × Int)}, Paired (IsSI K F.F) vs ps → RpAll K F vs (ps.map prSI)
  | _, _, .nil => .nil
  | _, _, .cons h hs => by
    obtain ⟨t, rfl, e⟩ := h
    exact .cons (Rp.tup e (.cons (.str _) (.cons (.int _) .nil))) (of_si hs)
section
variable {J : Jx} {M : Ms} {P : Ent → Ms → Prop}
def SortSIK (M : Ms) (ps : List (Str × Int)) (P : Ent → Ms → Prop) : Prop := ∀ qs : List (Str × Int), qs.Perm ps → qs.Pairwise (fun a b => lexS b a = false) → P (.d (.list (qs.map prSI))) M
theorem n_sortSI {x : Ent} {ds : List PyData} {ps : List (Str × Int)} (hd : LD M x ds) (he : ds = ps.map prSI) (p : SortSIK M ps P) : ON J (rSortedSI J.K) [x] M P := fun F Z H vs m xr r1 Q q => by
  subst he
  cases r1 with
  | cons r0 rt =>
    cases rt
    obtain ⟨a, vs, rfl, e, rs⟩ := ld_ok m r0 hd
    refine ⟨a, vs, ps, IsSI J.K F.F, rfl, e, fun x p h => ?_, si_of rs, fun ys qs a2 h1 h2 h3 n => ?_⟩
    · obtain ⟨t, rfl, e⟩ := h
      exact ⟨t, rfl, sqT_mono m.sub e⟩
    · obtain ⟨s3, m3⟩ := m.newF (o := .lst _) n
      exact q _ _ _ (.d (.list (qs.map prSI))) M s3 m3 (Rp.lst upd_same ((of_si h1).mono s3)) (p qs h2 h3)
end
/-! sorted pairs with the same members are the same list -/
theorem sortSI_uniq {ps qs : List (Str × Int)} (hp : ps.Perm qs) (h1 : ps.Pairwise (fun a b => lexS b a = false)) (h2 : qs.Pairwise (fun a b => lexS b a = false)) : ps = qs :=
  List.Perm.eq_of_pairwise (le := fun a b => lexS b a = false) (fun a b _ _ x y => by
    have x1 := lexS_no.mp x
    have y1 := lexS_no.mp y
    have e : a.1 = b.1 := leS_anti (fun q => x1 (.inl q)) (fun q => y1 (.inl q))
    have e2 : a.2 = b.2 := by
      have a2 : ¬ b.2 < a.2 := fun q => x1 (.inr ⟨e.symm, q⟩)
      have b2 : ¬ a.2 < b.2 := fun q => y1 (.inr ⟨e, q⟩)
      omega
    exact Prod.ext e e2) h1 h2 hp
end Z
set_option Elab.async false
set_option linter.all false
set_option maxRecDepth 100000
set_option maxHeartbeats 4000000
namespace Z
open PySem PySem.Spec L2
section
variable {J : Jx} {M : Ms} {P : Ent → Ms → Prop} {X : Cx} {K : PySem.W.Frag}
/-! ## list.insert of data -/
abbrev rInsert : V → List V → Hp → VK → Prop := fun x vs H Q => ∃ (l : Addr) (xs : List V) (i : Int) (y : V), x = .ref l ∧ vs = [.int i, y] ∧ H l = some (.lst xs) ∧ xs.length < sizeLine ∧ 0 ≤ i ∧ i < 2 ^ 63 ∧
    Q .non (upd H l (.lst (xs.take i.toNat ++ [y] ++ xs.drop i.toNat)))
theorem m_insert {n : Nat} {ds : List PyData} {i : Int} {y : PyData} (hm : M[n]? = some (some (.lst ds))) (hl : ds.length < sizeLine) (h0 : 0 ≤ i) (h1 : i < 1000000) (p : P (.d .none) (M.set n (some (.lst (ds.take i.toNat ++ [y] ++ ds.drop i.toNat))))) : OM J rInsert (.r n) [.d (.int i), .d y] M P := fun F Z H v vs m xr r1 r2 Q q => by
  obtain ⟨b, eb, rfl⟩ := r1
  cases r2 with
  | cons ri rt =>
    cases rt with
    | cons r0 rt =>
      cases rt
      cases ri
      obtain ⟨a, vs, h0', _, e, rs⟩ := m.lst hm
      rw [eb] at h0'
      cases h0'
      exact ⟨_, _, _, _, rfl, rfl, e, by rw [rs.length]; exact hl, h0, Int.lt_trans h1 (by decide), q _ F _ (.d .none) _ (Same.refl F) (m.write (o := .lst _) (m := .lst (ds.take i.toNat ++ [y] ++ ds.drop i.toNat)) hm eb ⟨_, rfl, ((rs.take _).append (.cons r0 .nil)).append (rs.drop _)⟩) Rp.non p⟩
end
end Z
set_option Elab.async false
set_option linter.all false
set_option maxRecDepth 100000
set_option maxHeartbeats 4000000
namespace Z
open PySem PySem.Spec PyProof.Rows L2
/-! ## x | y, x & y, x - y, x + y by the own method, both of one class -/
def fSelf (cn : Str) : Fct := fun K => PySem.W.selfFirst K (He.ga K cn)
def rOwnB (K : PySem.W.Frag) (as : List MA) : R2 := fun x y H Q => ∃ a C dx fs b dy gs, x = .ref a ∧ y = .ref b ∧ H a = some (.ins C dx fs) ∧ H b = some (.ins C dy gs) ∧ PySem.W.selfFirst K C = true ∧ ∃ m ∈ as, m.C = C ∧ spA K m.c (perm m.ix ([x, y] ++ (m.cvs ++ []))) H Q E0
theorem op_ownB {X : Cx} {as : List MA} {op : Operator} {nm : Str} (hn : PySem.dunder op.info.2 = nm) (hy : ∀ y ∈ as, MAok X CX0 nm 1 [] y) (hu : ∀ y ∈ as, ∃ k, Room k X.A) : OpR X (binaryOp op) (rOwnB X.K as) := by
  intro pins s σ H x y v u Q I rx ry h
  obtain ⟨a, C, dx, fs, b, dy, gs, rfl, rfl, ea, eb, hn', m, hm, ec, q⟩ := h
  obtain rfl : v = Value.ref a := rx
  obtain rfl : u = Value.ref b := ry
  obtain ⟨k, f, fd, ps, c, mt, F, hr, cs, hb⟩ := hy m hm
  rw [ec] at c mt
  obtain ⟨mA, J, _⟩ := ins_get I.hok ea
  obtain ⟨mB, J', _⟩ := ins_get I.hok eb
  obtain ⟨od, J, _⟩ := J.look
  obtain ⟨od', J', _⟩ := J'.look
  obtain ⟨mm, hF⟩ := I.fr
  subst hn
  refine PySem.W.binop_K hF I.ok.mod.kin J J'.type hn' mt.at_ mt.fn ?_
  refine wpAny_mono (run_fnS (us := [.ref a, .ref b]) (vs := [.ref a, .ref b]) (ws := []) (zs := []) F hr hb (passN σ) I (.cons rfl (.cons rfl .nil)) .nil rfl rfl q) (fun w s' z => ?_) fun _ _ x => x
  obtain ⟨z', H', I', rz, qz⟩ := z
  exact SlX.cmpback rz ⟨z', H', I', rz, qz⟩
theorem kOwnB {X : Cx} {K : PySem.W.Frag} {as : List MA} {op : Operator} {nm : Str} (h : X.K = K) (hn : PySem.dunder op.info.2 = nm) (hy : ∀ y ∈ as, MAok X CX0 nm 1 [] y) : OpR X (binaryOp op) (rOwnB K as) := h ▸ op_ownB hn hy (fun y h => by
  obtain ⟨k, f, fd, ps, c, mt, F, hr, cs, hb⟩ := hy y h
  exact ⟨k, hr⟩)
section
variable {J : Jx} {M : Ms} {P : Ent → Ms → Prop} {x y : Ent}
theorem o_ownB {C : Addr} {fs gs : List (Str × Ent)} {as : List MA} {m : MA} (hx : OV M x C fs) (hy : OV M y C gs) (hn : PySem.W.selfFirst J.K C = true) (hm : m ∈ as) (ec : m.C = C) (hv : CVs m.cvs m.ces) (h : Fr m.c (perm m.ix ([x, y] ++ (m.ces ++ []))) M P X0) : O2 J (rOwnB J.K as) x y M P := fun F Z H v u mm xr r1 r2 Q q => by
  obtain ⟨a, dx, us, rfl, ea, rs⟩ := ov_ok mm r1 hx
  obtain ⟨b, dy, ws, rfl, eb, rt⟩ := ov_ok mm r2 hy
  exact ⟨a, C, dx, us, b, dy, ws, rfl, rfl, ea, eb, hn, m, hm, ec, fr_sp (J := J) (E := E0) h (perm_paired (paired_append (.cons r1 (.cons r2 .nil)) (paired_append (hv _ F) .nil)) m.ix) mm (fun _ _ _ _ _ _ _ _ z _ => z.elim) q⟩
end
/-! ## y in x by the own __contains__ (which gives a bool) -/
def rOwnIn (K : PySem.W.Frag) (as : List MA) : R2 := fun x y H Q => ∃ b C dy gs, y = .ref b ∧ H b = some (.ins C dy gs) ∧ ∃ m ∈ as, m.C = C ∧ spA K m.c (perm m.ix ([y, x] ++ (m.cvs ++ []))) H (fun v H' => (∃ t, v = .bl t) ∧ Q v H') E0
theorem op_ownIn {X : Cx} {as : List MA} (hy : ∀ y ∈ as, MAok X CX0 "__contains__" 1 [] y) : OpR X (compareOp .In) (rOwnIn X.K as) := by
  intro pins s σ H x y v u Q I rx ry h
  obtain ⟨b, C, dy, gs, rfl, eb, m, hm, ec, q⟩ := h
  obtain rfl : u = Value.ref b := ry
  obtain ⟨k, f, fd, ps, c, mt, F, hr, cs, hb⟩ := hy m hm
  rw [ec] at c mt
  obtain ⟨mB, J', _⟩ := ins_get I.hok eb
  obtain ⟨od', J', _⟩ := J'.look
  obtain ⟨mm, hF⟩ := I.fr
  refine PySem.W.in_K hF I.ok.mod.kin J' mt.at_ mt.fn ?_
  refine wpAny_mono (run_fnS (us := [.ref b, v]) (vs := [.ref b, x]) (ws := []) (zs := []) F hr hb (passN σ) I (.cons rfl (.cons rx .nil)) .nil rfl rfl q) (fun w s' z => ?_) fun _ _ x => x
  obtain ⟨z', H', I', rz, ⟨t, rfl⟩, qz⟩ := z
  cases (show w = Value.bool t from rz)
  exact wpAny_truthy_bool ⟨.bl t, H', I', rfl, qz⟩
theorem kOwnIn {X : Cx} {K : PySem.W.Frag} {as : List MA} (h : X.K = K) (hy : ∀ y ∈ as, MAok X CX0 "__contains__" 1 [] y) : OpR X (compareOp .In) (rOwnIn K as) := h ▸ op_ownIn hy
section
variable {J : Jx} {M : Ms} {P : Ent → Ms → Prop} {x y : Ent}
theorem o_ownIn {C : Addr} {gs : List (Str × Ent)} {as : List MA} {m : MA} (hy : OV M y C gs) (hm : m ∈ as) (ec : m.C = C) (hv : CVs m.cvs m.ces) (h : Fr m.c (perm m.ix ([y, x] ++ (m.ces ++ []))) M (fun e M' => (∃ t, e = .d (.bool t)) ∧ P e M') X0) : O2 J (rOwnIn J.K as) x y M P := fun F Z H v u mm xr r1 r2 Q q => by
  obtain ⟨b, dy, ws, rfl, eb, rt⟩ := ov_ok mm r2 hy
  refine ⟨b, C, dy, ws, rfl, eb, m, hm, ec, fr_sp (J := J) (E := E0) h (perm_paired (paired_append (.cons r2 (.cons r1 .nil)) (paired_append (hv _ F) .nil)) m.ix) mm (fun _ _ _ _ _ _ _ _ z _ => z.elim) fun v F' H' e' M' s' m' r' p => ?_⟩
  obtain ⟨⟨t, rfl⟩, p⟩ := p
  have r2 := r'
  cases r'
  exact ⟨⟨t, rfl⟩, q _ F' H' (.d (.bool t)) M' s' m' r2 p⟩
end
/-! ## len(x), bool(x) by the own __len__, __bool__ -/
def SPok (X : Cx) (nm : Str) (y : MA) : Prop := ∃ (k : Nat) (f : Addr) (fd : FuncData) (ps : List Str), Cls X.K y.C ∧ Meth X.K y.C nm f ∧ FnOk X.prog X.w X.K X.mg X.base CX0 k f fd ps (spA X.K y.c) ∧ Room (k + 2) X.A ∧ Binds X.K fd ps []
theorem sp_inner {X : Cx} {nm : Str} {as : List MA} (hy : ∀ y ∈ as, SPok X nm y) {A : Around} (hA : ∀ k, Room (k + 2) X.A → Room k A ∧ (∀ {s : Shared} {H : Hp}, Env0 X.prog X.w X.K X.mg X.base X.A X.stack s H → Env0 X.prog X.w X.K X.mg X.base A X.stack s H)) {pins : List (Addr × Obj)} {σ : L2.St} {H : Hp} {s : Shared} {a C dx : Addr} {fs : List (Str × V)} {y : MA} {Q : VK} {E' : Value → Shared → Prop} (I : Inv X pins σ H s) (ea : H a = some (.ins C dx fs)) (hm : y ∈ as) (ec : y.C = C) (q : spA X.K y.c [.ref a] H Q E0) :
    wpAny (model X.prog X.w) A (callSpecial? (.ref a) nm []) (fun r s' => ∃ v, r = some v ∧ EP X pins σ Q v s') E' s := by
  obtain ⟨k, f, fd, ps, c, mt, F, hr, hb⟩ := hy y hm
  rw [ec] at c mt
  obtain ⟨mA, O, _, _, _, _⟩ := ins_get I.hok ea
  obtain ⟨od, J, _⟩ := O.look
  have hl : ([Value.ref a] ++ []).length = ps.length := by
    rw [← F.len _ _ _ _ q]
    rfl
  obtain ⟨hA1, hA2⟩ := hA k hr
  refine PySem.W.special_fn I.kIn J mt.at_ (beq_iff_eq.mp mt.fn) (wpAny_call (codeAny_mono (F.run A X.stack s H ⟨[.ref a], []⟩ [.ref a] [.ref a] Q E0 hA1 (hA2 I.env0) (hb _ [.ref a] I.kIn hl) (.cons rfl .nil) q) fun r s' hq => ?_))
  cases r with
  | error er => exact hq.elim
  | ok fl =>
    cases fl with
    | ret u =>
      obtain ⟨v, H', I3, rv, q3⟩ := I.after hq
      exact ⟨_, rfl, v, H', I3, rv, q3⟩
    | next | brk | cont => exact False.elim hq
def rLenO (K : PySem.W.Frag) (as : List MA) : List V → Hp → VK → Prop := fun xs H Q => ∃ a C dx fs, xs = [.ref a] ∧ H a = some (.ins C dx fs) ∧ ∃ y ∈ as, y.C = C ∧ spA K y.c [.ref a] H (fun v H' => (∃ n : Int, v = .int n ∧ 0 ≤ n ∧ n < 2 ^ 62) ∧ Q v H') E0
theorem call_lenO {X : Cx} {K : PySem.W.Frag} {as : List MA} (h : X.K = K) (hy : ∀ y ∈ as, SPok X "__len__" y) : CallR X (.builtin "len") (rLenO K as) := by
  subst h
  intro pins s σ H xs us Q I r h
  obtain ⟨a, C, dx, fs, rfl, ea, y, hm, ec, q⟩ := h
  obtain ⟨u, rfl, rx⟩ := vals1 r
  obtain rfl : u = Value.ref a := rx
  refine PySem.Calls.call_function_entry PySem.kind_len PySem.plain_len PySem.entry_len (PySem.args_len1 _) ?_
  unfold Builtin.«len»
  refine wpAny_bind (m := oneArg "len" _) (wpAny_pure ?_)
  refine wpAny_bind (m := callSpecial? (.ref a) (PySem.Str.ofString "__len__")) (wpAny_mono (sp_inner hy (A := X.A.in1) (fun k h => ⟨(h.mono (by omega : k + 1 ≤ k + 2)).in1, fun e => e.in1⟩) I ea hm ec q) (fun r s' z => ?_) fun _ _ y => y)
  obtain ⟨v, rfl, w, H', I', rw', ⟨n, rfl, h0, h1⟩, qz⟩ := z
  obtain ⟨t, rfl⟩ := rw'
  refine wpAny_bind (wpAny_holding (wpAny_pure ?_))
  refine wpAny_bind (wpAny_letGo ?_)
  show wpAny _ _ (if n < 0 then _ else _) _ _ _
  rw [if_neg (by omega)]
  show wpAny _ _ (if n ≥ 2 ^ 63 then _ else _) _ _ _
  rw [if_neg (by omega)]
  exact wpAny_bind (wpAny_mkInt (wpAny_pure ⟨_, rfl, ⟨.int n, H', I'.tok _, ⟨_, rfl⟩, qz⟩⟩))
def rBoolO (K : PySem.W.Frag) (as : List MA) : List V → Hp → VK → Prop := fun xs H Q => ∃ a C dx fs, xs = [.ref a] ∧ H a = some (.ins C dx fs) ∧ ∃ y ∈ as, y.C = C ∧ spA K y.c [.ref a] H (fun v H' => (∃ t, v = .bl t) ∧ Q v H') E0
theorem typeIs_bool (b : Bool) (s : Shared) : s.TypeIs (.bool b) "bool" := rfl
theorem call_boolO {X : Cx} {K : PySem.W.Frag} {as : List MA} (h : X.K = K) (hy : ∀ y ∈ as, SPok X "__bool__" y) : CallR X (.type "bool") (rBoolO K as) := by
  subst h
  intro pins s σ H xs us Q I r h
  obtain ⟨a, C, dx, fs, rfl, ea, y, hm, ec, q⟩ := h
  obtain ⟨u, rfl, rx⟩ := vals1 r
  obtain rfl : u = Value.ref a := rx
  have key0 := sp_inner hy (A := X.A.in1.in1) (E' := X.xe) (fun k h => ⟨h.in1.in1, fun e => e.in1.in1⟩) I ea hm ec q
  refine PySem.callType_codes (T := "bool") (Bi := Builtin.«object.__init__») (Q₁ := fun r s₁ => ∃ y, r = .bool y ∧ EP X pins σ Q r s₁) PySem.F.called_bool (PySem.F.typeCall_bool_1 _) PySem.F.entry_object_init ?_ ?_
  · refine codeAny_of_tree ?_
    show wpAny _ X.A.in1.in1 (do checkBuiltinCall "bool.__new__" ⟨[.type "bool", .ref a], []⟩; again (.builtin "bool.__new__" ⟨[.type "bool", .ref a], []⟩)) _ _ s
    refine wpAny_bind (wpAny_of_eq (PySem.F.newCall_bool_1 _) (wpAny_pure ⟨plainId_quiet (by decide +kernel) _, codeAny_builtin PySem.F.entry_bool_new ?_⟩))
    rw [Around.under_plainId (by decide +kernel) _]
    have key : wpAny (model X.prog X.w) X.A.in1.in1 (truthy (.ref a)) (fun b s₁ => EP X pins σ Q (.bool b) s₁) X.xe s := by
      unfold truthy
      refine wpAny_bind (m := callSpecial? (.ref a) (Str.ofString "__bool__")) (wpAny_mono key0 (fun r s' z => ?_) fun _ _ y => y)
      obtain ⟨v, rfl, w, H', I', rw', ⟨t, rfl⟩, qz⟩ := z
      cases (show v = Value.bool t from rw')
      exact wpAny_pure ⟨.bl t, H', I', rfl, qz⟩
    unfold Builtin.«bool.__new__»
    refine wpAny_bind (wpAny_pure ?_)
    refine wpAny_bind (wpAny_of_eq PySem.F.conv_sub_bool ?_)
    refine wpAny_bind (wpAny_pure ?_)
    exact wpAny_bind (wpAny_mono key (fun b s₁ hb => wpAny_pure ⟨_, rfl, hb⟩) fun _ _ y => y)
  · rintro obj s₁ ⟨y, rfl, hq⟩
    exact ⟨typeIs_bool _ _, PySem.F.args_object_init_2 _ _, object_init_meets PySem.F.called_bool.init.lookup PySem.F.called_bool.made (by decide) X.prog X.w X.A.in1 _ s₁ ⟨typeIs_bool _ _, rfl, hq⟩⟩
theorem sp_nil {X : Cx} {nm : Str} : ∀ y ∈ ([] : List MA), SPok X nm y := fun _ h => by cases h
theorem sp_cons {X : Cx} {nm : Str} {y : MA} {as : List MA} (h1 : SPok X nm y) (h : ∀ y ∈ as, SPok X nm y) : ∀ z ∈ y :: as, SPok X nm z := fun z hz => by
  rcases List.mem_cons.mp hz with rfl | hz
  · exact h1
  · exact h z hz
theorem spo_of {X : Cx} {K : PySem.W.Frag} {cn nm x qual : Str} {st : Stmt} {k j : Nat} {ps : List Str} {c : ASp} (h : X.K = K) (hc : (He.Fa.cls cn).ok K = true) (hm : (He.Fa.meth cn nm).ok K = true) (C : Cm X.prog X.w K X.mg X.base CX0 (cn, some nm) x qual st [] [] k ps c) (hr : Room j X.A) (hk : k + 2 ≤ j)
    (hb : ∀ (cl : List (Str × Addr)) (kV doc pm : Value) (an : Option Addr) (cdv ct : Value) (us : List Value), us.length = ps.length → bindArgs (PySem.W.fnX x qual (defArgs st) (defBody st) (defScope st) cl .none kV doc pm an cdv ct) ⟨us, []⟩ = pure (ps.zip us)) : SPok X nm ⟨He.ga K cn, c, [], [], []⟩ := by
  subst h
  obtain ⟨fd, F, B, kp⟩ := C.ex
  exact ⟨k, _, fd, ps, He.cls_ok hc, He.meth_ok hm, F, hr.mono hk, bB B hb⟩
section
variable {J : Jx} {M : Ms} {P : Ent → Ms → Prop}
theorem n_lenO {e : Ent} {C : Addr} {fs : List (Str × Ent)} {m : MA} (ho : OV M e C fs) (ec : m.C = C) (h : Fr m.c [e] M (fun e M' => (∃ n : Int, e = .d (.int n) ∧ 0 ≤ n ∧ n < 2 ^ 62) ∧ P e M') X0) : ON J (rLenO J.K [m]) [e] M P := fun F Z H vs mm xr r1 Q q => by
  cases r1 with
  | cons r0 rt =>
    cases rt
    obtain ⟨a, dx, us, rfl, ea, _⟩ := ov_ok mm r0 ho
    refine ⟨a, C, dx, us, rfl, ea, m, List.mem_cons_self .., ec, fr_sp (J := J) (E := E0) h (.cons r0 .nil) mm (fun _ _ _ _ _ _ _ _ z _ => z.elim) fun v F' H' e' M' s' m' r' p => ?_⟩
    obtain ⟨⟨n, rfl, h0, h1⟩, p⟩ := p
    have r2 := r'
    cases r'
    exact ⟨⟨n, rfl, h0, h1⟩, q _ F' H' (.d (.int n)) M' s' m' r2 p⟩
theorem n_boolO {e : Ent} {C : Addr} {fs : List (Str × Ent)} {m : MA} (ho : OV M e C fs) (ec : m.C = C) (h : Fr m.c [e] M (fun e M' => (∃ t : Bool, e = .d (.bool t)) ∧ P e M') X0) : ON J (rBoolO J.K [m]) [e] M P := fun F Z H vs mm xr r1 Q q => by
  cases r1 with
  | cons r0 rt =>
    cases rt
    obtain ⟨a, dx, us, rfl, ea, _⟩ := ov_ok mm r0 ho
    refine ⟨a, C, dx, us, rfl, ea, m, List.mem_cons_self .., ec, fr_sp (J := J) (E := E0) h (.cons r0 .nil) mm (fun _ _ _ _ _ _ _ _ z _ => z.elim) fun v F' H' e' M' s' m' r' p => ?_⟩
    obtain ⟨⟨t, rfl⟩, p⟩ := p
    have r2 := r'
    cases r'
    exact ⟨⟨t, rfl⟩, q _ F' H' (.d (.bool t)) M' s' m' r2 p⟩
end
end Z
set_option Elab.async false
set_option linter.all false
set_option maxRecDepth 100000
set_option maxHeartbeats 4000000
namespace Z
open PySem PySem.Spec PyProof.Rows L2
/-! ## sorted(a list of pairs of ints), any length -/
def lexI (p q : Int × Int) : Bool := decide (p.1 < q.1) || (decide (p.1 = q.1) && decide (p.2 < q.2))
theorem lexI_iff {p q : Int × Int} : lexI p q = true ↔ p.1 < q.1 ∨ (p.1 = q.1 ∧ p.2 < q.2) := by simp [lexI]
theorem lexI_no {p q : Int × Int} : lexI p q = false ↔ ¬ (p.1 < q.1 ∨ (p.1 = q.1 ∧ p.2 < q.2)) := by
  rw [← lexI_iff]
  cases lexI p q <;> simp
theorem lexI_eq (p q : Int × Int) : SrtO.lexB p q = lexI p q := by
  cases h : SrtO.lexB p q with
  | true => exact (lexI_iff.mpr (SrtO.lexB_iff.mp h)).symm
  | false => exact (lexI_no.mpr (SrtO.lexB_no.mp h)).symm
theorem pairI_fun0 {h : Heap} {v : Value} {x x' y y' : Int} (p : Srt.IsPair h v x y) (q : Srt.IsPair h v x' y') : x = x' ∧ y = y' := by
  obtain ⟨a, o, t, u, n, rfl, ho, hc, hd⟩ := p
  obtain ⟨a', o', t', u', n', e, ho', hc', hd'⟩ := q
  cases e
  rw [ho] at ho'
  cases ho'
  rw [hd] at hd'
  cases hd'
  exact ⟨rfl, rfl⟩
theorem pairI_fun {h : Heap} {v : Value} {p q : Int × Int} (a : Srt.IsPair h v p.1 p.2) (b : Srt.IsPair h v q.1 q.2) : p = q := Prod.ext (pairI_fun0 a b).1 (pairI_fun0 a b).2
noncomputable def keyI (h : Heap) (v : Value) : Int × Int := by
  classical
  exact if e : ∃ p : Int × Int, Srt.IsPair h v p.1 p.2 then Classical.choose e else (0, 0)
theorem keyI_eq {h : Heap} {v : Value} {p : Int × Int} (q : Srt.IsPair h v p.1 p.2) : keyI h v = p := by
  have e : ∃ p : Int × Int, Srt.IsPair h v p.1 p.2 := ⟨p, q⟩
  unfold keyI
  rw [dif_pos e]
  exact pairI_fun (Classical.choose_spec e) q
def IsII (K : PySem.W.Frag) (H : Hp) (x : V) (p : Int × Int) : Prop := ∃ t, x = V.ref t ∧ SqT K H t [.int p.1, .int p.2]
def rSortedII (K : PySem.W.Frag) : List V → Hp → VK → Prop := fun vs H Q => ∃ (a : Addr) (xs : List V) (ps : List (Int × Int)) (R : V → Int × Int → Prop), vs = [V.ref a] ∧ SqL K H a xs ∧ (∀ x p, R x p → IsII K H x p) ∧ Paired R xs ps ∧
  ∀ ys qs p, Paired R ys qs → qs.Perm ps → qs.Pairwise (fun a b => lexI b a = false) → H p = none → Q (.ref p) (upd H p (.lst ys))
section
variable {X : Cx}
theorem vals_keysI {pins : List (Addr × Obj)} {s : Shared} {σ : L2.St} {H : Hp} (I : L2.Inv X pins σ H s) {R : V → Int × Int → Prop} (hR : ∀ x p, R x p → IsII X.K H x p) : ∀ {xs : List V} {its : List Value} {ps : List (Int × Int)}, Vals xs its → Paired R xs ps → its.map (keyI s.heap) = ps ∧ ∀ v ∈ its, Srt.IsPair s.heap v (keyI s.heap v).1 (keyI s.heap v).2
  | _, _, _, .nil, .nil => ⟨rfl, fun v h => nomatch h⟩
  | _, _, _, .cons r rs, .cons h hs => by
    obtain ⟨e, a⟩ := vals_keysI I hR rs hs
    obtain ⟨t, rfl, ht⟩ := hR _ _ h
    cases r
    obtain ⟨its2, r2, pl, _⟩ := I.tuple ht
    obtain ⟨u1, u2, rfl, ri, rj⟩ := vals2 r2
    obtain ⟨t1, rfl⟩ := ri
    obtain ⟨t2, rfl⟩ := rj
    obtain ⟨o, ho, hc, n, hd⟩ := pl
    have hp : Srt.IsPair s.heap (Value.ref t) _ _ := ⟨t, o, t1, t2, n, rfl, ho, hc, hd⟩
    have hk := keyI_eq (p := (_, _)) hp
    refine ⟨by rw [List.map_cons, e, hk], fun v hv => ?_⟩
    rcases List.mem_cons.mp hv with rfl | hv
    · rw [hk]; exact hp
    · exact a v hv
theorem cr_sortedII : CallR X (.builtin "sorted") (rSortedII X.K) := by
  intro pins s σ H vs us Q I r h
  obtain ⟨a, xs, ps, R, rfl, hs, hR, hx, q⟩ := h
  obtain ⟨its, rv, hl, hz⟩ := I.list hs
  obtain ⟨u, rfl, ru⟩ := vals1 r
  obtain rfl : u = Value.ref a := ru
  obtain ⟨e1, e2⟩ := refs_back rv fun x m => by
    obtain ⟨p, h⟩ := paired_memL hx x m
    obtain ⟨t, e, _⟩ := hR _ _ h
    exact ⟨t, e⟩
  obtain ⟨hk, hp⟩ := vals_keysI I hR rv hx
  have hall : ∀ v ∈ its, R (backV v) (keyI s.heap v) := paired_maps (by rw [← e1, hk]; exact hx)
  refine SrtO.sorted_pairsO (k := keyI s.heap) hl.isList (by rw [← rv.length]; exact hz) hp fun h' d out h1 h2 kp hd hn => ?_
  have hmem : ∀ u ∈ out, u ∈ its := fun u hu => h2.perm.mem_iff.mp hu
  have h3 : ∀ u ∈ out, ∃ a, u = Value.ref a := fun u hu => e2 u (hmem u hu)
  obtain ⟨n, hn⟩ := hn
  refine ⟨.ref d, upd H d (.lst (out.map backV)), I.laid (t' := s.toks) kp hd ⟨?_, out, n, vals_back h3, hn⟩, rfl, q _ (out.map (keyI s.heap)) d (paired_of_maps fun v hv => hall v (hmem v hv)) (by rw [← hk]; exact h2.perm.map _) (List.pairwise_map.mpr (h1.imp fun {a b} z => by rw [← lexI_eq]; exact z)) (I.hok.fresh hd)⟩
  rw [List.length_map, h2.perm.length_eq, ← rv.length]
  exact hz
end
@[reducible] def prI (p : Int × Int) : PyData := .tuple [.int p.1, .int p.2]
theorem kSortII {X : Cx} {K : PySem.W.Frag} (h : X.K = K) : CallR X (.builtin "sorted") (rSortedII K) := h ▸ cr_sortedII
theorem ii_of {K : PySem.W.Frag} {F : Wd} : ∀ {vs : List V} {ps : List (Int × Int)}, RpAll K F vs (ps.map prI) → Paired (IsII K F.F) vs ps
  | _, [], .nil => .nil
  | _, p :: ps, .cons r rs => by
    refine .cons ?_ (ii_of rs)
    cases r with
    | tup e rs =>
      cases rs with
      | cons r1 rs =>
        cases rs with
        | cons r2 rs =>
          cases rs
          cases r1
          cases r2
          exact ⟨_, rfl, e⟩
theorem of_ii {K : PySem.W.Frag} {F : Wd} : ∀ {vs : List V} {ps : List (Int × Int)}, Paired (IsII K F.F) vs ps → RpAll K F vs (ps.map prI)
  | _, _, .nil => .nil
  | _, _, .cons h hs => by
    obtain ⟨t, rfl, e⟩ := h
    exact .cons (Rp.tup e (.cons (.int _) (.cons (.int _) .nil))) (of_ii hs)
section
variable {J : Jx} {M : Ms} {P : Ent → Ms → Prop}
def SortIIK (M : Ms) (ps : List (Int × Int)) (P : Ent → Ms → Prop) : Prop := ∀ qs : List (Int × Int), qs.Perm ps → qs.Pairwise (fun a b => lexI b a = false) → P (.d (.list (qs.map prI))) M
theorem n_sortII {x : Ent} {ds : List PyData} {ps : List (Int × Int)} (hd : LD M x ds) (he : ds = ps.map prI) (p : SortIIK M ps P) : ON J (rSortedII J.K) [x] M P := fun F Z H vs m xr r1 Q q => by
  subst he
  cases r1 with
  | cons r0 rt =>
    cases rt
    obtain ⟨a, vs, rfl, e, rs⟩ := ld_ok m r0 hd
    refine ⟨a, vs, ps, IsII J.K F.F, rfl, e, fun x p h => ?_, ii_of rs, fun ys qs a2 h1 h2 h3 n => ?_⟩
    · obtain ⟨t, rfl, e⟩ := h
      exact ⟨t, rfl, sqT_mono m.sub e⟩
    · obtain ⟨s3, m3⟩ := m.newF (o := .lst _) n
      exact q _ _ _ (.d (.list (qs.map prI))) M s3 m3 (Rp.lst upd_same ((of_ii h1).mono s3)) (p qs h2 h3)
/-! ## sorted(a list of ints), any length -/
theorem kSortIA {X : Cx} {K : PySem.W.Frag} (h : X.K = K) : CallR X (.builtin "sorted") (rSortedI K) := h ▸ cr_sortedI
def SortIAK (M : Ms) (ns : List Int) (P : Ent → Ms → Prop) : Prop := ∀ ms : List Int, ms.Perm ns → ms.Pairwise (· ≤ ·) → P (.d (.list (ms.map PyData.int))) M
theorem n_sortIA {x : Ent} {ds : List PyData} {ns : List Int} (hd : LD M x ds) (he : ds = ns.map PyData.int) (p : SortIAK M ns P) : ON J (rSortedI J.K) [x] M P := fun F Z H vs m xr r1 Q q => by
  subst he
  cases r1 with
  | cons r0 rt =>
    cases rt
    obtain ⟨a, vs, rfl, e, rs⟩ := ld_ok m r0 hd
    have ev := rs.ints
    subst ev
    refine ⟨a, ns, rfl, e, fun ms a2 h1 h2 n => ?_⟩
    obtain ⟨s3, m3⟩ := m.newF (o := .lst _) n
    exact q _ _ _ (.d (.list (ms.map PyData.int))) M s3 m3 (Rp.lst upd_same (RpAll.ofInts ms)) (p ms h1 h2)
/-! ## max(a list of ints, default=d) -/
def maxDef (d : Int) : List Int → Int
  | [] => d
  | n :: ns => ns.foldl max n
def rMaxDef (K : PySem.W.Frag) : List V → List V → Hp → VK → Prop := fun vs zs H Q => ∃ (a : Addr) (ns : List Int) (d : Int), vs = [.ref a] ∧ zs = [.int d] ∧ SqL K H a (ns.map V.int) ∧ Q (.int (maxDef d ns)) H
theorem cr_maxDef {X : Cx} (hc : X.calm = true) (hr : Room 2 X.A) : CallRK X (.builtin "max") ["default"] (rMaxDef X.K) := by
  intro pins s σ H xs zs us ws Q I r1 r2 h
  obtain ⟨a, ns, d, rfl, rfl, hs, q⟩ := h
  obtain ⟨its, rv, hl, hz⟩ := I.list hs
  rw [Vals.ref1 r1]
  obtain ⟨u, rfl, t, rfl⟩ := vals1 r2
  have hdp : DpAll X.K H (ns.map V.int) (ns.map PyData.int) := by
    clear hs q hl hz rv r1 r2
    induction ns with
    | nil => exact .nil
    | cons n ns ih => exact .cons (.int n) ih
  obtain ⟨as, hra⟩ := Dp.readsAll I _ _ _ hdp rv
  have dz : ∀ ns : List Int, PyData.depthAll (ns.map PyData.int) = 0 := fun ns => by
    induction ns with
    | nil => rfl
    | cons n ns ih =>
      show max 0 (PyData.depthAll (ns.map PyData.int)) = 0
      rw [ih]; rfl
  refine PySem.W.max_list_default (I.ok.hd hc) hl.isList hra ⟨fun x hx y hy => ?_, fun x hx => ?_⟩ ?_ (fun e h' tk kp => ?_) fun y ys i v h' tk bs e hi rd kp => ?_
  · obtain ⟨m, _, rfl⟩ := List.mem_map.mp hx
    obtain ⟨k, _, rfl⟩ := List.mem_map.mp hy
    rfl
  · obtain ⟨m, _, rfl⟩ := List.mem_map.mp hx
    exact fun z => by cases z
  · rw [dz]
    exact (hr.mono (by decide : 1 ≤ 2)).in1.units0
  · have : ns = [] := List.map_eq_nil_iff.mp e
    subst this
    exact ⟨.int d, H, I.kept kp, ⟨_, rfl⟩, q⟩
  · cases ns with
    | nil => cases e
    | cons n ns =>
      rw [List.map_cons] at e
      injection e with e1 e2
      subst e1
      subst e2
      rw [PySem.W.maxD_ints] at rd
      cases rd
      exact ⟨.int _, H, I.kept kp, ⟨_, rfl⟩, q⟩
theorem kMaxDef {X : Cx} {K : PySem.W.Frag} (h : X.K = K) (hc : X.calm = true) (hr : Room 2 X.A) : CallRK X (.builtin "max") ["default"] (rMaxDef K) := h ▸ cr_maxDef hc hr
variable {Γ : Ga} {r : List V → List V → Hp → VK → Prop} {t tk : TA} {x : Ent}
def ONK (J : Jx) (r : List V → List V → Hp → VK → Prop) (xs zs : List Ent) (M : Ms) (P : Ent → Ms → Prop) : Prop := ∀ F Z H vs ws, Mem J.K F M Z H → XR J F Z → REs J.K F vs xs → REs J.K F ws zs → ∀ Q : VK,
  (∀ v F' H' e M', Same F F' → Mem J.K F' M' Z H' → RE J.K F' v e → P e M' → Q v H') → r vs ws H Q
theorem w_ckw (h : WA J t Γ M fun es M1 => WA J tk Γ M1 fun zs M2 => ONK J r es zs M2 P) : Wx J (tCKw r t tk) Γ M P := fun F Z σ H en m x Q q =>
  h F Z σ H en m x _ fun vs F1 H1 es M1 s1 m1 r1 h1 => h1 F1 Z σ H1 (en.mono s1) m1 (x.mono s1) _ fun ws F2 H2 zs M2 s2 m2 r2 h2 =>
    h2 F2 Z H2 vs ws m2 (x.mono (s1.trans s2)) (REs.mono s2 r1) r2 Q fun w F3 H3 e3 M3 s3 m3 r3 p => q w F3 H3 e3 M3 ((s1.trans s2).trans s3) m3 r3 p
theorem n_maxDef {ds : List PyData} {ns : List Int} {d : Int} (hd : LD M x ds) (he : ds = ns.map PyData.int) (p : P (.d (.int (maxDef d ns))) M) : ONK J (rMaxDef J.K) [x] [.d (.int d)] M P := fun F Z H vs ws m xr r1 r2 Q q => by
  subst he
  cases r1 with
  | cons r0 rt =>
    cases rt
    cases r2 with
    | cons r3 rt =>
      cases rt
      cases r3
      obtain ⟨a, vs, rfl, e, rs⟩ := ld_ok m r0 hd
      have ev := rs.ints
      subst ev
      exact ⟨a, ns, d, rfl, rfl, e, q _ F H (.d (.int _)) M (Same.refl F) m (Rp.int _) p⟩
/-! ## xs.reverse() of data -/
abbrev rReverse : V → List V → Hp → VK → Prop := fun x vs H Q => ∃ (l : Addr) (xs : List V), x = .ref l ∧ vs = [] ∧ H l = some (.lst xs) ∧ Q .non (upd H l (.lst xs.reverse))
theorem m_reverse {n : Nat} {ds : List PyData} (hm : M[n]? = some (some (.lst ds))) (p : P (.d .none) (M.set n (some (.lst ds.reverse)))) : OM J rReverse (.r n) [] M P := fun F Z H v vs m xr r1 r2 Q q => by
  obtain ⟨b, eb, rfl⟩ := r1
  cases r2
  obtain ⟨a, vs, h0', _, e, rs⟩ := m.lst hm
  rw [eb] at h0'
  cases h0'
  exact ⟨_, _, rfl, rfl, e, q _ F _ (.d .none) _ (Same.refl F) (m.write (o := .lst _) (m := .lst ds.reverse) hm eb ⟨_, rfl, rpAll_rev rs⟩) Rp.non p⟩
/-! ## bool(a list) -/
abbrev rBoolL (K : PySem.W.Frag) : List V → Hp → VK → Prop := fun xs H Q => ∃ (a : Addr) (zs : List V), xs = [.ref a] ∧ SqL K H a zs ∧ Q (.bl (!zs.isEmpty)) H
theorem kBoolL {X : Cx} {K : PySem.W.Frag} (h : X.K = K) : CallR X (.type "bool") (rBoolL K) := h ▸ call_boolL
theorem n_boolL {ds : List PyData} (hd : LD M x ds) (p : P (.d (.bool (!ds.isEmpty))) M) : ON J (rBoolL J.K) [x] M P := fun F Z H vs m xr r1 Q q => by
  cases r1 with
  | cons r0 rt =>
    cases rt
    obtain ⟨a, vs, rfl, e, rs⟩ := ld_ok m r0 hd
    have hz : vs.isEmpty = ds.isEmpty := by cases rs <;> rfl
    refine ⟨a, vs, rfl, e, ?_⟩
    rw [hz]
    exact q _ F H (.d (.bool _)) M (Same.refl F) m (Rp.bl _) p
end
/-! ## lists of pairs of ints, compared -/
theorem noObj_prI (ps : List (Int × Int)) : noObjs (ps.map prI) = true := by
  induction ps with
  | nil => rfl
  | cons p ps ih =>
    show (noObj (prI p) && noObjs (ps.map prI)) = true
    rw [ih]
    rfl
theorem lay_prI : ∀ ps : List (Int × Int), PyData.canLayAll0 (ps.map prI) = true ∧ PyData.depthAll (ps.map prI) ≤ 1
  | [] => ⟨rfl, Nat.zero_le _⟩
  | p :: ps => by
    obtain ⟨h1, h2⟩ := lay_prI ps
    refine ⟨?_, ?_⟩
    · show (PyData.canLayAll0 [PyData.int p.1, PyData.int p.2] && PyData.canLayAll0 (ps.map prI)) = true
      rw [h1]
      rfl
    · show max (PyData.depthAll [PyData.int p.1, PyData.int p.2] + 1) (PyData.depthAll (ps.map prI)) ≤ 1
      have : PyData.depthAll [PyData.int p.1, PyData.int p.2] = 0 := rfl
      omega
theorem shaped_prI (ps : List (Int × Int)) : SeqAt.shaped (.list (ps.map prI)) = true := by
  obtain ⟨h1, h2⟩ := lay_prI ps
  show (PyData.canLayAll0 (ps.map prI) && decide (PyData.depthAll (ps.map prI) + 1 ≤ 64)) = true
  rw [h1, decide_eq_true (by omega)]
  rfl
theorem eqv_prI : ∀ ps qs : List (Int × Int), PyData.eqv (.list (ps.map prI)) (.list (qs.map prI)) = decide (ps = qs)
  | [], [] => rfl
  | [], q :: qs => rfl
  | p :: ps, [] => rfl
  | p :: ps, q :: qs => by
    have ih := eqv_prI ps qs
    have e1 : PyData.eqv (prI p) (prI q) = decide (p = q) := by
      show PyData.eqvAll [.int p.1, .int p.2] [.int q.1, .int q.2] = _
      show (PyData.eqv (.int p.1) (.int q.1) && (PyData.eqv (.int p.2) (.int q.2) && true)) = _
      rw [show PyData.eqv (.int p.1) (.int q.1) = decide (p.1 = q.1) by simp only [PyData.eqv]; rfl, show PyData.eqv (.int p.2) (.int q.2) = decide (p.2 = q.2) by simp only [PyData.eqv]; rfl, Bool.and_true]
      obtain ⟨a, b⟩ := p
      obtain ⟨c, d⟩ := q
      simp [Prod.ext_iff]
    show (PyData.eqv (prI p) (prI q) && PyData.eqvAll (ps.map prI) (qs.map prI)) = _
    have e2 : PyData.eqvAll (ps.map prI) (qs.map prI) = decide (ps = qs) := ih
    rw [e1, e2]
    simp
section
variable {J : Jx} {M : Ms} {P : Ent → Ms → Prop} {x y : Ent} {ds es : List PyData} {ps qs : List (Int × Int)}
theorem o_eqPI (h1 : DV M x (.list ds)) (h2 : DV M y (.list es)) (e1 : ds = ps.map prI) (e2 : es = qs.map prI) (p : P (.d (.bool (decide (ps = qs)))) M) : O2 J (rEqU J.K) x y M P := by
  subst e1
  subst e2
  exact o_eqL h1 h2 (noObj_prI ps) (noObj_prI qs) (shaped_prI ps) (shaped_prI qs) (by rw [eqv_prI]; exact p)
theorem o_nePI (h1 : DV M x (.list ds)) (h2 : DV M y (.list es)) (e1 : ds = ps.map prI) (e2 : es = qs.map prI) (p : P (.d (.bool (!decide (ps = qs)))) M) : O2 J (rNeU J.K) x y M P := by
  subst e1
  subst e2
  exact o_neL h1 h2 (noObj_prI ps) (noObj_prI qs) (shaped_prI ps) (shaped_prI qs) (by rw [eqv_prI]; exact p)
end
end Z
namespace Z
open PySem PySem.Spec PyProof.Rows L2
/-! ## a for over a list or a tuple -/
def iBoth (K : PySem.W.Frag) (tl : TE) : TI := fun σ H R => tl σ H fun x H1 => (∃ a, x = .ref a ∧ (∃ xs, SqL K H1 a xs) ∧ R (Itl K a) H1) ∨ (∃ a, x = .ref a ∧ (∃ xs, SqT K H1 a xs) ∧ R (Itt K a) H1)
theorem pi_both {X : Cx} {tg l : Expr} {tl : TE} (hl : PE X l tl) : PI X tg l (iBoth X.K tl) := by
  refine ⟨fun pins s σ H R I h => ?_⟩
  refine thn (hl.run pins s σ H _ I h) fun v s1 ⟨x, H1, I1, r1, q1⟩ => ?_
  rcases q1 with ⟨a, e, ⟨xs, hq⟩, q⟩ | ⟨a, e, ⟨xs, hq⟩, q⟩
  · subst e
    cases r1
    obtain ⟨its, rv, p, hz⟩ := I1.list hq
    refine wpAny_pyIter_list p.isList ?_
    refine ⟨s1.heap.objs.size, [s1.heap.objs.size], _, _, H1, rfl, I1.kept (t' := s1.toks) fun b o e => Heap.get?_push_of_some _ e, turn_list a _, ⟨_, Heap.get?_push_size _ rfl, rfl, rfl⟩, fun b hb => ?_, q⟩
    have e : b = s1.heap.objs.size := by simpa using hb
    subst e
    exact I1.fpOk (Nat.le_refl _) (I1.hok.fresh (Nat.le_refl _))
  · subst e
    cases r1
    obtain ⟨its, rv, p, hz⟩ := I1.tuple hq
    refine wpAny_pyIter_tuple (show s1.heap.IsTuple a its.toArray from p) ?_
    refine ⟨s1.heap.objs.size, [s1.heap.objs.size], _, _, H1, rfl, I1.kept (t' := s1.toks) fun b o e => Heap.get?_push_of_some _ e, turn_tuple a _, ⟨_, Heap.get?_push_size _ rfl, rfl, rfl⟩, fun b hb => ?_, q⟩
    have e : b = s1.heap.objs.size := by simpa using hb
    subst e
    exact I1.fpOk (Nat.le_refl _) (I1.hok.fresh (Nat.le_refl _))
theorem ki_both {X : Cx} {K : PySem.W.Frag} {tg l : Expr} {ta : TE} (h : X.K = K) (hl : PE X l ta) : PI X tg l (iBoth K ta) := h ▸ pi_both hl
section
variable {J : Jx} {Γ : Ga} {M : Ms} {P : List Ent → (Ms → Prop) → Ms → Prop} {te : TE}
theorem wi_both (h : Wx J te Γ M fun x M1 => ∃ ds, LD M1 x ds ∧ P (ds.map Ent.d) (fun M2 => LD M2 x ds) M1) : WI J (iBoth J.K te) Γ M P := fun F Z σ H en m x R q =>
  h F Z σ H en m x _ fun v F1 H1 e M1 s1 m1 r1 ⟨ds, hd, p⟩ => by
    obtain ⟨a, vs, rfl, ea, rs⟩ := ld_ok m1 r1 hd
    have at_ : ∀ F2 M2 H2, Same F1 F2 → Mem J.K F2 M2 Z H2 → LD M2 e ds → ∃ ws, SqL J.K H2 a ws ∧ RpAll J.K F2 ws ds := fun F2 M2 H2 s2 m2 g => by
      obtain ⟨b, ws, e2, eb, rt⟩ := ld_ok m2 (r1.mono s2) g
      cases e2
      exact ⟨ws, eb, rt⟩
    refine .inl ⟨_, rfl, ⟨_, ea⟩, q _ F1 H1 M1 _ _ s1 m1 (fun Z' hZ => ?_) p⟩
    have mz : ∀ {F2 M2 H2}, Mem J.K F2 M2 Z' H2 → Mem J.K F2 M2 Z H2 := fun m2 => m2.lessZ hZ
    refine ⟨fun F2 M2 H2 i s2 m2 g hi => ?_, fun F2 M2 H2 s2 m2 g => ?_, fun F2 M2 H2 i x H' s2 m2 g hi y => ?_⟩
    · obtain ⟨ws, ec, qs⟩ := at_ F2 M2 H2 s2 (mz m2) g
      rw [List.length_map] at hi
      exact (walk_list (xs := ws)).goes i H2 (by rw [qs.length]; exact hi) ec
    · obtain ⟨ws, ec, qs⟩ := at_ F2 M2 H2 s2 (mz m2) g
      have z := (walk_list (K := J.K) (a := a) (xs := ws)).stops H2 ec
      rw [qs.length] at z
      rw [List.length_map]
      exact z
    · obtain ⟨ws, ec, qs⟩ := at_ F2 M2 H2 s2 (mz m2) g
      rw [List.length_map] at hi
      obtain ⟨e1, e2⟩ := (walk_list (K := J.K) (a := a) (xs := ws)).yields i H2 x H' (by rw [qs.length]; exact hi) ec y
      subst e1
      exact ⟨F2, .d ds[i], Same.refl F2, m2, by rw [List.getElem?_map, List.getElem?_eq_getElem hi]; rfl, qs.get e2 (List.getElem?_eq_getElem hi)⟩
theorem wi_bothT (h : Wx J te Γ M fun x M1 => ∃ ds, x = .d (.tuple ds) ∧ P (ds.map Ent.d) GT0 M1) : WI J (iBoth J.K te) Γ M P := fun F Z σ H en m x R q =>
  h F Z σ H en m x _ fun v F1 H1 e M1 s1 m1 r1 ⟨ds, ed, p⟩ => by
    subst ed
    cases r1 with
    | tup ea rs => exact .inr ⟨_, rfl, ⟨_, sqT_mono m1.sub ea⟩, q _ F1 H1 M1 _ GT0 s1 m1 (fun Z' _ => aw_at walk_tup (fun F2 M2 H2 s2 m2 _ => sqT_mono m2.sub (sqT_mono s2.F ea)) rs) p⟩
/-- a list or a tuple, by what it holds -/
inductive LT (M : Ms) : Ent → List PyData → Prop
  | l {e : Ent} {ds : List PyData} (h : LD M e ds) : LT M e ds
  | t {ds : List PyData} : LT M (.d (.tuple ds)) ds
theorem wi_lt (h : Wx J te Γ M fun x M1 => ∃ ds, LT M1 x ds ∧ P (ds.map Ent.d) (fun M2 => LT M2 x ds) M1) : WI J (iBoth J.K te) Γ M P := fun F Z σ H en m x R q =>
  h F Z σ H en m x _ fun v F1 H1 e M1 s1 m1 r1 ⟨ds, hd, p⟩ => by
    cases hd with
    | t =>
      cases r1 with
      | tup ea rs => exact .inr ⟨_, rfl, ⟨_, sqT_mono m1.sub ea⟩, q _ F1 H1 M1 _ _ s1 m1 (fun Z' _ => aw_at walk_tup (fun F2 M2 H2 s2 m2 _ => sqT_mono m2.sub (sqT_mono s2.F ea)) rs) p⟩
    | l hd =>
      obtain ⟨a, vs, rfl, ea, rs⟩ := ld_ok m1 r1 hd
      have at_ : ∀ F2 M2 H2, Same F1 F2 → Mem J.K F2 M2 Z H2 → LT M2 e ds → ∃ ws, SqL J.K H2 a ws ∧ RpAll J.K F2 ws ds := fun F2 M2 H2 s2 m2 g => by
        cases g with
        | l g =>
          obtain ⟨b, ws, e2, eb, rt⟩ := ld_ok m2 (r1.mono s2) g
          cases e2
          exact ⟨ws, eb, rt⟩
        | t => cases hd
      refine .inl ⟨_, rfl, ⟨_, ea⟩, q _ F1 H1 M1 _ _ s1 m1 (fun Z' hZ => ?_) p⟩
      have mz : ∀ {F2 M2 H2}, Mem J.K F2 M2 Z' H2 → Mem J.K F2 M2 Z H2 := fun m2 => m2.lessZ hZ
      refine ⟨fun F2 M2 H2 i s2 m2 g hi => ?_, fun F2 M2 H2 s2 m2 g => ?_, fun F2 M2 H2 i x H' s2 m2 g hi y => ?_⟩
      · obtain ⟨ws, ec, qs⟩ := at_ F2 M2 H2 s2 (mz m2) g
        rw [List.length_map] at hi
        exact (walk_list (xs := ws)).goes i H2 (by rw [qs.length]; exact hi) ec
      · obtain ⟨ws, ec, qs⟩ := at_ F2 M2 H2 s2 (mz m2) g
        have z := (walk_list (K := J.K) (a := a) (xs := ws)).stops H2 ec
        rw [qs.length] at z
        rw [List.length_map]
        exact z
      · obtain ⟨ws, ec, qs⟩ := at_ F2 M2 H2 s2 (mz m2) g
        rw [List.length_map] at hi
        obtain ⟨e1, e2⟩ := (walk_list (K := J.K) (a := a) (xs := ws)).yields i H2 x H' (by rw [qs.length]; exact hi) ec y
        subst e1
        exact ⟨F2, .d ds[i], Same.refl F2, m2, by rw [List.getElem?_map, List.getElem?_eq_getElem hi]; rfl, qs.get e2 (List.getElem?_eq_getElem hi)⟩
theorem ex_lt {e : Ent} {ds : List PyData} {Q : List PyData → Prop} (hl : LT M e ds) (h : Q ds) : ∃ ds, LT M e ds ∧ Q ds := ⟨ds, hl, h⟩
end
end Z
namespace Z
open PySem PySem.Spec PyProof.Rows L2
/-! ## what a turn of a loop has made is forgotten at its end -/
def fgtE (k : Nat) : Option Ent → Option Ent
  | some (.r n) => if n < k then some (.r n) else none
  | o => o
def fgtG (k : Nat) (Γ : Ga) : Ga := Γ.map (fgtE k)
theorem idxOf_range {k n : Nat} (h : n < k) : (List.range k).idxOf n = n := idx_at List.nodup_range (List.getElem?_range h)
theorem env_fgt {K : PySem.W.Frag} {F : Wd} {k : Nat} : ∀ {σ : L2.St} {Γ : Ga}, EnvOk K F σ Γ → EnvOk K (selW (List.range k) F) σ (fgtG k Γ)
  | _, _, .nil => .nil
  | _, none :: _, .cons q t => .cons trivial (env_fgt t)
  | _, some (.d x) :: _, .cons q t => .cons (by obtain ⟨v, e, r⟩ := q; exact ⟨v, e, re_sel (s := List.range k) (e := .d x) r trivial⟩) (env_fgt t)
  | _, some (.w x) :: _, .cons q t => .cons (by obtain ⟨v, e, r⟩ := q; exact ⟨v, e, re_sel (s := List.range k) (e := .w x) r trivial⟩) (env_fgt t)
  | _, some (.t x) :: _, .cons q t => .cons (by obtain ⟨v, e, r⟩ := q; exact ⟨v, e, r⟩) (env_fgt t)
  | _, some (.g x) :: _, .cons q t => .cons (by obtain ⟨v, e, r⟩ := q; exact ⟨v, e, r⟩) (env_fgt t)
  | _, some (.r n) :: _, .cons q t => .cons (by
      show RO K _ _ (if n < k then some (Ent.r n) else none)
      by_cases hn : n < k
      · rw [if_pos hn]
        obtain ⟨v, e, r⟩ := q
        have h := re_sel (s := List.range k) r (List.mem_range.mpr hn)
        rw [show (Ent.r n).sel (List.range k) = .r ((List.range k).idxOf n) from rfl, idxOf_range hn] at h
        exact ⟨v, e, h⟩
      · rw [if_neg hn]
        trivial) (env_fgt t)
theorem same_fgt {F F' : Wd} {k : Nat} (s : Same F F') (hk : F.ι.length = k) : Same F (selW (List.range k) F') := by
  refine ⟨s.F, ?_⟩
  have e : (selW (List.range k) F').ι = F.ι := by
    obtain ⟨r, hr⟩ := s.ι
    refine List.ext_getElem? fun i => ?_
    show ((List.range k).map fun n => F'.ι[n]?.getD 0)[i]? = _
    rw [List.getElem?_map]
    by_cases hi : i < k
    · rw [List.getElem?_range hi]
      show some (F'.ι[i]?.getD 0) = _
      rw [← hr, List.getElem?_append_left (by omega), List.getElem?_eq_getElem (by omega)]
      rfl
    · rw [List.getElem?_eq_none (by simp; omega), List.getElem?_eq_none (by omega)]
      rfl
  rw [e]
  exact List.prefix_refl _
theorem s_forget {J : Jx} {t : TS} {Γ : Ga} {M : Ms} {P : Ga → Ms → Prop} {r : Ent → Ms → Prop} {b : Ga → Ms → Prop}
    (h : Sx J t ⟨fun Γ2 M2 => Nat.ble M.length M2.length = true ∧ flatMs (M2.take M.length) = true ∧ P (fgtG M.length Γ2) (M2.take M.length), r, b, fun Γ2 M2 => Nat.ble M.length M2.length = true ∧ flatMs (M2.take M.length) = true ∧ P (fgtG M.length Γ2) (M2.take M.length)⟩ Γ M) :
    Sx J t ⟨P, r, b, P⟩ Γ M := fun F Z σ H C en m x d => by
  have key : ∀ F' M' H' σ' Γ', Same F F' → Mem J.K F' M' Z H' → EnvOk J.K F' σ' Γ' → Nat.ble M.length M'.length = true ∧ flatMs (M'.take M.length) = true ∧ P (fgtG M.length Γ') (M'.take M.length) → ∃ F2, Same F F2 ∧ Mem J.K F2 (M'.take M.length) Z H' ∧ EnvOk J.K F2 σ' (fgtG M.length Γ') ∧ P (fgtG M.length Γ') (M'.take M.length) := fun F' M' H' σ' Γ' s m' e' ⟨hl, hf, p⟩ => by
    have hl2 := Nat.le_of_ble_eq_true hl
    have m2 := m'.sel0 (okS_range hl2 hf)
    rw [selM_range hl2 hf] at m2
    exact ⟨_, same_fgt s m.len, m2, env_fgt e', p⟩
  refine h F Z σ H C en m x ⟨fun F' M' H' σ' Γ' s m' e' q => ?_, d.rt, d.bk, fun F' M' H' σ' Γ' s m' e' q => ?_⟩
  · obtain ⟨F2, a1, a2, a3, a4⟩ := key F' M' H' σ' Γ' s m' e' q
    exact d.nx F2 _ H' σ' _ a1 a2 a3 a4
  · obtain ⟨F2, a1, a2, a3, a4⟩ := key F' M' H' σ' Γ' s m' e' q
    exact d.ct F2 _ H' σ' _ a1 a2 a3 a4
end Z
set_option Elab.async false
set_option linter.all false
set_option maxRecDepth 100000
set_option maxHeartbeats 4000000
namespace Z
open PySem PySem.Spec L2
/-! ## a comprehension whose element may let an exception out -/
/-- a block's context, told what its element may let out -/
abbrev blkR (X : Cx) (s : Shared) (H : Hp) (scope : Scope) (ce : Env) (fp : List Addr) (xe : Value → Shared → Prop) : Cx := { X.blk s H scope ce fp with xe := xe }
theorem inv_xe {X : Cx} {e : Value → Shared → Prop} {pins : List (Addr × Obj)} {σ : L2.St} {H : Hp} {s : Shared} (I : Inv X pins σ H s) : Inv { X with xe := e } pins σ H s := by
  obtain ⟨ok, a1, a2, a3, a4, a5, a6, a7, a8, a9, a10⟩ := I
  obtain ⟨b1, b2, b3, b4, b5, b6, b7, b8, b9, b10, b11, b12, b13, b14, b15, b16, b17, b18⟩ := ok
  exact ⟨⟨b1, b2, b3, b4, b5, b6, b7, b8, b9, b10, b11, b12, b13, b14, b15, b16, b17, b18⟩, a1, a2, a3, a4, a5, a6, a7, a8, a9, a10⟩
/-- what the element of a block may let out -/
abbrev PassB (X : Cx) (W : WX) (Y : Cx) : Prop := ∀ σ, PassesAt (L2.CX X.prog X.w) Y σ (WE W σ)
theorem sky_flies {B B0 : Heap} {l l0 : List Env} {a L : Addr} {Z Z0 : Obj → Prop} {h : Heap} (x : L2.Sky B l a Z L h) (f : HandSPX.FlyingZ B0 l0 a Z0 h) : HandSPX.FlyingZ B l a Z h := by
  obtain ⟨_, _, _, oe, vs, T, oT, ts, he, _, hd, h1, _, _, hT, hdT, h3⟩ := f
  rcases x with ⟨_, _, _, oe2, vs2, he2, _, hd2, h12⟩ | x | ⟨_, _, _, oe2, vs2, T2, oT2, ts2, he2, _, hd2, h12, _, _, hT2, hdT2, h32⟩
  · rw [he] at he2
    cases he2
    rw [hd] at hd2
    cases hd2
    rw [h1] at h12
    cases h12
  · exact x
  · rw [he] at he2
    cases he2
    rw [hd] at hd2
    cases hd2
    rw [h1] at h12
    cases h12
    rw [hT] at hT2
    cases hT2
    rw [hdT] at hdT2
    cases hdT2
    rw [h3] at h32
    simp [rawInt] at h32
theorem pass_blk {X : Cx} {W : WX} {pins : List (Addr × Obj)} {σ : L2.St} {H3 : Hp} {s3 : Shared} {scope : Scope} {ce : Env} {fp : List Addr} (I3 : Inv X pins σ H3 s3) (tk : L2.Takes X W) (hW : ∀ c d σ1 σ2 H, W c d σ1 H → W c d σ2 H)
    (hs : X.stack = X.env :: X.outer) (hf : X.env.frame = some X.env.locals) (f3 : ∀ b ∈ fp, FpOk X pins H3 b) (hce : ce.frame = X.env.frame) (cL : ce.locals = s3.heap.objs.size) :
    PassB X W (blkR X s3 H3 scope ce fp (notedBy (model X.prog X.w) X.A ce (CompFails (model X.prog X.w) X.A X.xe ce))) := by
  intro σb pb H s u s' I c
  obtain ⟨a, B0, H', cls, d, eu, fl0, -⟩ := id c
  subst eu
  obtain ⟨a2, B, sI, pi, σ2, H4, cls2, d2, eu, I6, nb, up, sky, na, os, ag, w⟩ := L2.XE.of_call (W := W) I (fun _ _ _ h => h) c
  cases eu
  have fl := sky_flies sky fl0
  have fl : HandSPX.FlyingZ B (X.env :: X.outer) a (Zc cls2 d2) s'.heap := by
    rw [← hs]
    exact fl
  have hfr : X.A.frames = some (X.env :: X.outer) := by rw [I3.ok.frames, hs]
  show wpAny _ _ (noteFrame (.ref a) ce) _ _ s'
  rw [noteFrame_env _ hce]
  refine HandSPX.looks_onZ Zc.steady hfr hf fl fun h1 hh up1 => ?_
  have up01 := up.trans up1
  obtain ⟨m, hn, -⟩ := I6.loc
  have hn1 : h1.Ns ce.locals m := Heap.Ns.upToSlots hn fun b o e nf => up01 b o e nf
  refine ⟨m, hn1, fun h2 m2 hn2 sb => ?_⟩
  obtain ⟨g1, g2, g3, oe, vs, T, oT, ts, he, hz, hd, hv1, nT, hTe, hT, hdT, ht3⟩ := hh
  obtain ⟨oC, es, ep, hoC, hdC, -⟩ := id hn1
  have aC : a ≠ ce.locals := fun q => by
    rw [q, hoC] at he
    cases he
    rw [hdC] at hd
    cases hd
  have TC : T ≠ ce.locals := fun q => by
    rw [q, hoC] at hT
    cases hT
    rw [hdC] at hdT
    cases hdT
  have hid : ∀ {h : Heap} {b : Addr} {o : Obj}, (PySem.W.hideAll h [ce.locals]).get? b = some o → h.get? b = some o ∧ b ≠ ce.locals := fun {h b o} e => ⟨PySem.W.of_hideAll _ e, fun q => by
    rw [PySem.W.hideAll_none _ (by rw [q]; exact List.mem_singleton.mpr rfl)] at e
    cases e⟩
  have hnone : ∀ {h : Heap} {b : Addr}, h.get? b = none → (PySem.W.hideAll h [ce.locals]).get? b = none := fun {h b} e => by
    cases q : (PySem.W.hideAll h [ce.locals]).get? b with
    | none => rfl
    | some o =>
      rw [(hid q).1] at e
      cases e
  have ff : h2.FunFrames (PySem.W.hideAll B [ce.locals]) (X.env :: X.outer) := Heap.FunFrames.sameBut sb hn2 (funFrames_none g3 fun L hL => hnone (g3.mem hL).1)
  have hh2 : HandSPX.HeldZ (PySem.W.hideAll B [ce.locals]) (X.env :: X.outer) a (Zc cls2 d2) X.env.locals h2 :=
    ⟨fun b o e => (sb.2 b (hid e).2).trans (g1 b o (hid e).1), hnone g2, ff, oe, vs, T, oT, ts, (sb.2 a aC).trans he, hz, hd, hv1, hnone nT, hTe, (sb.2 T TC).trans hT, hdT, ht3⟩
  unfold passOn
  refine wpAny_bind (wpAny_field ((sb.2 a aC).trans he) hd hv1 ?_)
  rw [if_neg (show ¬ ((Value.ref T == Value.none) = true) by simp), hce, hf]
  refine wpAny_bind (HandSPX.setFlight_onZ hh2 fun h4 hh4 up4 => ?_)
  refine wpAny_throw ?_
  have nC : H4 ce.locals = none := I6.free
  rw [cL] at nC
  have I7 : Inv X pins σ H4 sI := I3.call' (ch := fp) I6.os I6.base I6.hok I6.bare fun b hb => ⟨(f3 b hb).2.2.2.1, (f3 b hb).2.1, (f3 b hb).2.2.2.2.1, (f3 b hb).2.2.2.2.2⟩
  obtain ⟨z0, z1, z2, z3, z4, z5⟩ := I3.fpOk (Nat.le_refl _) nC
  have I8 : Inv X pins σ H4 { sI with heap := PySem.W.hideAll sI.heap [ce.locals] } := I7.turned (t' := sI.toks) (it := s3.heap.objs.size) (fun b o hb e => by
    refine PySem.W.hideAll_get _ e fun q => hb ?_
    rw [List.mem_singleton.mp q, cL]) z0 z1 z3 z4 z5
  refine tk _ _ ⟨a, PySem.W.hideAll B [ce.locals], { sI with heap := PySem.W.hideAll sI.heap [ce.locals] }, pins, σ, H4, cls2, d2, rfl, I8, fun b o e hb => ?_, fun b o e nf => ?_, .inr (.inr ?_), na, os, ag, hW _ _ _ _ _ w⟩
  · obtain ⟨e1, e2⟩ := hid e
    exact PySem.W.hideAll_get _ (nb b o e1 hb) fun q => e2 (List.mem_singleton.mp q)
  · obtain ⟨e1, e2⟩ := hid e
    obtain ⟨sl, e3⟩ := up01 b o e1 nf
    have e4 := (sb.2 b e2).trans e3
    obtain ⟨sl2, e5⟩ := up4 b _ e4 nf
    exact ⟨sl2, e5⟩
  · rw [hs]
    exact hh4
section
variable {X : Cx}
/-- [elt for tg in iter if ..], the element may raise -/
theorem pe_lcR {W : WX} {elt tg iter : Expr} {ifs : List Expr} {scope : Scope} {own : List (Str × Nat)} {pos : Pos} {wi : TI} {g : TG} {tt : TT} {te : TE} (hc : X.calm = true) (hN : X.N.Nodup) (tk : L2.Takes X W) (hW : ∀ c d σ1 σ2 H, W c d σ1 H → W c d σ2 H)
    (hs : X.stack = X.env :: X.outer) (hf : X.env.frame = some X.env.locals) (hi : PI X tg iter wi) (ok : BlkOk X.N X.env.scope scope own)
    (hg : ∀ (s : Shared) (H : Hp) (C : Addr) (cl : List (Str × Addr)) (fp : List Addr) (xe : Value → Shared → Prop), PG (blkR X s H scope (compEnvC scope cl C X.env) fp xe) tg g)
    (ht : ∀ (s : Shared) (H : Hp) (C : Addr) (cl : List (Str × Addr)) (fp : List Addr) (xe : Value → Shared → Prop), PTs (blkR X s H scope (compEnvC scope cl C X.env) fp xe) ifs tt)
    (he : ∀ (s : Shared) (H : Hp) (C : Addr) (cl : List (Str × Addr)) (fp : List Addr) (xe : Value → Shared → Prop), PassB X W (blkR X s H scope (compEnvC scope cl C X.env) fp xe) → PE (blkR X s H scope (compEnvC scope cl C X.env) fp xe) elt te)
    (hfs : ∀ x, foldedSetIterable iter X.env x = pure x := by intro _; rfl) : PE X (.ListComp elt [⟨tg, iter, ifs, 0⟩] scope pos) (tLc wi g tt te (own.map (·.2))) := by
  refine ⟨fun pins s σ H Q I h => ?_⟩
  rw [eval_ListComp]
  have free1 : ∀ y ∈ scope.names, y.2 = .free → ∃ c, X.env.cells.lookup y.1 = some c := fun y hy e => (ok.free y hy e).elim (fun k => I.ok.has _ (.inl k)) fun k => I.ok.has _ (.inr k)
  refine comprehension_at (use := none) rfl hfs (closure_ok free1) ok.kind (fun y hy e => (ok.uniq y hy).trans (by rw [e])) ?_
  refine thn (hi.run pins s σ H _ I h) fun xv sa hx => thn hx fun itv sb hsb => ?_
  obtain ⟨it, fp, tn, J, Hb, rfl, Ib, T, stb, fb, q⟩ := hsb
  refine wpAny_newObj_type (newEnv_comp ?_) (show 0 ≤ sizeLine by decide)
  obtain ⟨D, hD⟩ : ∃ D, D = sb.heap.objs.size := ⟨_, rfl⟩
  rw [← hD]
  have nD : Hb D = none := Ib.hok.fresh (Nat.le_of_eq hD.symm)
  obtain ⟨V, ⟨m0, v0⟩, turn⟩ := q D nD
  obtain ⟨sc, hsc⟩ : ∃ sc : Shared, sc = { sb with heap := sb.heap.push { cls := .type "list", data := .seq ([] : List Value).toArray } } := ⟨_, rfl⟩
  have hch : sc.heap = sb.heap.push { cls := .type "list", data := .seq ([] : List Value).toArray } := by rw [hsc]
  have Ic : Inv X pins σ (upd Hb D (.lst [])) sc := by
    rw [hsc]
    refine Ib.laid (t' := sb.toks) (fun b o e => Heap.get?_push_of_some _ e) (Nat.le_of_eq hD.symm) ⟨Nat.zero_le _, [], 0, .nil, ?_⟩
    rw [hD]
    exact Heap.get?_push_size _ rfl
  have lt1 : ∀ b ∈ fp, b < sb.heap.objs.size := fun b hb => by
    obtain ⟨o, e, -⟩ := T.obj _ _ stb b hb
    exact Heap.lt_size e
  have fc : ∀ b ∈ fp, FpOk X pins (upd Hb D (.lst [])) b ∧ b < sc.heap.objs.size := fun b hb => by
    have l := lt1 b hb
    refine ⟨⟨?_, (fb b hb).2⟩, by rw [hch, Heap.size_push]; exact Nat.lt_succ_of_lt l⟩
    rw [upd_ne (by rw [hD]; exact Nat.ne_of_lt l)]
    exact (fb b hb).1
  have stc : tn 0 sc.heap := T.keep _ _ _ stb fun b _ o e => by
    rw [hch]
    exact Heap.get?_push_of_some _ e
  have Id := block_start Ic ok hN fc
  rw [← hsc]
  show codeAny _ _ (.compStart (.ListComp elt [⟨tg, iter, ifs, 0⟩] scope pos) 0 (.ref it) (.ref D) (compEnvC scope (cellsFrom (sc.heap.objs.size + 1) scope.names (cloFrom X.env.cells scope.names [])) sc.heap.objs.size X.env))
    (compEnds (model X.prog X.w) X.A X.xe none (EP X pins σ Q) (.ref D) (compEnvC scope (cellsFrom (sc.heap.objs.size + 1) scope.names (cloFrom X.env.cells scope.names [])) sc.heap.objs.size X.env)) { sc with heap := pushCells (sc.heap.push { cls := .type "dict", data := .dict #[] }) scope.names }
  have pg := hg sc (upd Hb D (.lst [])) sc.heap.objs.size (cellsFrom (sc.heap.objs.size + 1) scope.names (cloFrom X.env.cells scope.names [])) fp
  have pt := ht sc (upd Hb D (.lst [])) sc.heap.objs.size (cellsFrom (sc.heap.objs.size + 1) scope.names (cloFrom X.env.cells scope.names [])) fp
  have pe := he sc (upd Hb D (.lst [])) sc.heap.objs.size (cellsFrom (sc.heap.objs.size + 1) scope.names (cloFrom X.env.cells scope.names [])) fp
  have fpn : ∀ b ∈ fp, (upd Hb D (.lst [])) b = none := fun b hb => (fc b hb).1.1
  obtain ⟨ce, hce⟩ : ∃ ce, ce = compEnvC scope (cellsFrom (sc.heap.objs.size + 1) scope.names (cloFrom X.env.cells scope.names [])) sc.heap.objs.size X.env := ⟨_, rfl⟩
  rw [← hce] at Id pg pt pe ⊢
  have cL : ce.locals = sc.heap.objs.size := by rw [hce]; rfl
  have cF : ce.frame = X.env.frame := by rw [hce]; rfl
  have pb := pass_blk (scope := scope) (fp := fp) Ic tk hW hs hf (fun b hb => (fc b hb).1) cF cL
  generalize hxe : notedBy (model X.prog X.w) X.A ce (CompFails (model X.prog X.w) X.A X.xe ce) = xe at pb
  have pg := pg xe
  have pt := pt xe
  have pe := pe xe pb
  have Id : Inv (blkR X sc (upd Hb D (.lst [])) scope ce fp xe) [] (wipe σ (own.map (·.2))) (upd Hb D (.lst [])) _ := inv_xe Id
  generalize hHc : upd Hb D (.lst []) = Hc at Ic Id pg pt pe v0 fpn fc pb
  obtain ⟨sd, hsd⟩ : ∃ sd : Shared, sd = { sc with heap := pushCells (sc.heap.push { cls := .type "dict", data := .dict #[] }) scope.names } := ⟨_, rfl⟩
  rw [← hsd] at Id ⊢
  have std : tn 0 sd.heap := T.keep _ _ _ stc fun b _ o e => by
    rw [hsd]
    exact pushCells_keeps _ _ _ _ (Heap.get?_push_of_some _ e)
  have stat : ∀ {σ' : L2.St} {H' : Hp} {s' : Shared}, Inv (blkR X sc Hc scope ce fp xe) [] σ' H' s' → (∀ b ∈ fp, H' b = none) → ∀ b ∈ fp, FpOk (blkR X sc Hc scope ce fp xe) [] H' b := fun {σ' H' s'} I' hn b hb =>
    ⟨hn b hb, (I'.ok.exf b hb).1, I'.ok.exfs b hb, .inl hb, fun x c e => (I'.ok.exf b hb).2 x c e, fun p hp => absurd (show p ∈ ([] : List (Addr × Obj)) ++ [] from hp) (by simp)⟩
  have loop : codeAny (model X.prog X.w) X.A (.compLoop (.ListComp elt [⟨tg, iter, ifs, 0⟩] scope pos) 0 (.ref it) (.ref D) ce) (compEnds (model X.prog X.w) X.A X.xe none (EP X pins σ Q) (.ref D) ce) sd := by
    refine compLoop_any (fun n s' => ∃ i H', Inv (blkR X sc Hc scope ce fp xe) [] (wipe σ (own.map (·.2))) H' s' ∧ tn i s'.heap ∧ (∀ b ∈ fp, H' b = none) ∧ V i n H') ?_ m0 ⟨0, Hc, Id, std, fpn, v0⟩
    rintro n s5 ⟨i, H5, I5, st5, n5, w5⟩
    have hxe2 : (notedBy (model X.prog X.w) X.A ce fun e s' => compEnds (model X.prog X.w) X.A X.xe none (EP X pins σ Q) (.ref D) ce (.error e) s') = xe := hxe
    rw [hxe2]
    rcases turn i n H5 w5 with ⟨stop, qq⟩ | ⟨go, Nx, hNx, step⟩
    · refine thn (T.done (blkR X sc Hc scope ce fp xe) rfl rfl rfl hc i [] s5 _ H5 xe I5 (stat I5 n5) st5 stop) fun r s6 ⟨hr, I6⟩ => ?_
      subst hr
      have I7 : Inv X pins σ H5 s6 := Ic.call' (ch := fp) I6.os I6.base I6.hok I6.bare fun b hb => ⟨(fc b hb).1.2.2.2.1, (fc b hb).1.2.1, (fc b hb).1.2.2.2.2.1, (fc b hb).1.2.2.2.2.2⟩
      have nC : H5 sc.heap.objs.size = none := by
        have z : H5 ce.locals = none := I6.free
        rwa [cL] at z
      obtain ⟨m, hn, -⟩ := I6.loc
      have hn : s6.heap.Ns ce.locals m := hn
      obtain ⟨z0, z1, z2, z3, z4, z5⟩ := Ic.fpOk (Nat.le_refl _) nC
      refine ⟨m, hn, fun h7 sb7 => ⟨.ref D, H5, ?_, rfl, qq⟩⟩
      rw [cL] at sb7
      exact I7.turned (t' := s6.toks) (fun b o hb e => (sb7.2 b hb).trans e) z0 z1 z3 z4 z5
    · refine thn (T.item (blkR X sc Hc scope ce fp xe) rfl rfl rfl hc i [] s5 _ H5 xe I5 (stat I5 n5) st5 go) fun r s6 ⟨u, hr, h6⟩ => ?_
      subst hr
      refine thn h6 fun _ s7 ⟨x, H7, I7, r7, y7, st7, n7⟩ => ?_
      have J7 := I7.pinned (stat I7 n7) (T.obj _ _ st7)
      refine thn (pg.run _ s7 _ H7 x u _ J7 r7 (step x H7 y7)) fun _ s8 ⟨σ8, H8, I8, hw8, q8⟩ => ?_
      refine thn (pt.run _ s8 σ8 H8 _ I8 q8) fun b s9 ⟨H9, I9, q9⟩ => ?_
      have fin : ∀ {s' : Shared} {H' : Hp}, Inv (blkR X sc Hc scope ce fp xe) ([] ++ pinsAt fp s7.heap) σ8 H' s' → Nx H' → ∃ m, m < n ∧ ∃ i H', Inv (blkR X sc Hc scope ce fp xe) [] (wipe σ (own.map (·.2))) H' s' ∧ tn i s'.heap ∧ (∀ b ∈ fp, H' b = none) ∧ V i m H' := fun {s' H'} I' nx => by
        obtain ⟨m', hm, w'⟩ := hNx H' nx
        have pin1 : ∀ b ∈ fp, ∀ o, s7.heap.get? b = some o → s'.heap.get? b = some o ∧ H' b = none := fun b hb o e => by
          have z := I'.pin (b, o) (List.mem_append_right _ (List.mem_append_right _ (mem_pinsAt hb e)))
          exact ⟨z.1, z.2.1⟩
        have hl : (wipe σ (own.map (·.2))).length = σ8.length := by rw [← hw8, wipe_length]
        refine ⟨m', hm, i + 1, H', (I'.unpinned (pins := [])).weak hl (fun j v e => ?_), T.keep _ _ _ st7 fun b hb o e => (pin1 b hb o e).1, fun b hb => ?_, w'⟩
        · rw [← hw8] at e
          exact (wipe_some e).1
        · obtain ⟨o, e, -⟩ := T.obj _ _ st7 b hb
          exact (pin1 b hb o e).2
      cases b with
      | false => exact fin I9 q9
      | true =>
        refine thn (pe.run _ s9 σ8 H9 _ I9 q9) fun z s10 ⟨yv, H10, I10, r10, acc, hD10, hz10, nx⟩ => ?_
        exact app_ok (X := blkR X sc Hc scope ce fp xe) I10 hD10 hz10 r10 fun s11 I11 => fin I11 nx
  exact codeAny_compStart_list loop (T.self X.A 0 _ _ _ std loop)
end
end Z
set_option Elab.async false
set_option linter.all false
set_option maxRecDepth 100000
set_option maxHeartbeats 4000000
namespace Z
open PySem PySem.Spec L2
/-! ## slices of tuples -/
theorem kSlT {X : Cx} {K : PySem.W.Frag} (h : X.K = K) : SlR X (rSlT K) := h ▸ sl_tup
section
variable {J : Jx} {M : Ms} {P : Ent → Ms → Prop}
theorem l_tupC {ds : List PyData} {lo hi : Option Int} (hn : ¬ (HT.sIx ds.length 0 lo = 0 ∧ HT.sIx ds.length ds.length hi = ds.length)) (p : P (.d (.tuple (cutD ds lo hi))) M) : OS J (rSlT J.K) (.d (.tuple ds)) lo hi M P := fun F Z H v m xr r1 Q q => by
  cases r1 with
  | tup e rs =>
    have hl := rs.length
    refine ⟨_, _, rfl, sqT_mono m.sub e, by rw [hl]; exact hn, fun a n => ?_⟩
    obtain ⟨s3, m3⟩ := m.newF (o := .tup _) n
    exact q _ _ _ (.d (.tuple _)) M s3 m3 (Rp.tup (.inl (.inl upd_same)) ((cut_rp rs lo hi).mono s3)) p
/-! ## flat tuples compared -/
theorem flat_tup {ds : List PyData} (h : ds.all flatOk = true) : noObj (.tuple ds) = true ∧ SeqAt.shaped (.tuple ds) = true := by
  obtain ⟨h1, h2, h3, _⟩ := flat_lay h
  refine ⟨h1, ?_⟩
  show (PyData.canLayAll0 ds && decide (PyData.depthAll ds + 1 ≤ 64)) = true
  rw [h2, h3]
  rfl
theorem o_eqFT {as bs : List PyData} (ha : as.all flatOk = true) (hb : bs.all flatOk = true) (p : P (.d (.bool (PyData.eqvAll as bs))) M) : O2 J (rEqU J.K) (.d (.tuple as)) (.d (.tuple bs)) M P :=
  o_eqL DV.d DV.d (flat_tup ha).1 (flat_tup hb).1 (flat_tup ha).2 (flat_tup hb).2 p
theorem o_neFT {as bs : List PyData} (ha : as.all flatOk = true) (hb : bs.all flatOk = true) (p : P (.d (.bool (!PyData.eqvAll as bs))) M) : O2 J (rNeU J.K) (.d (.tuple as)) (.d (.tuple bs)) M P :=
  o_neL DV.d DV.d (flat_tup ha).1 (flat_tup hb).1 (flat_tup ha).2 (flat_tup hb).2 p
/-! ## a written list of ints and None, at an index within -/
def oiE : Option Int → PyData
  | none => .none
  | some n => .int n
def oisOf : List PyData → Option (List (Option Int))
  | [] => some []
  | .int i :: r => match oisOf r with
    | some l => some (some i :: l)
    | none => none
  | .none :: r => match oisOf r with
    | some l => some (none :: l)
    | none => none
  | _ => none
theorem oisOf_ok : ∀ {ds : List PyData} {l : List (Option Int)}, oisOf ds = some l → ds = l.map oiE
  | [], l, h => by cases h; rfl
  | .int i :: r, l, h => by
    unfold oisOf at h
    cases e : oisOf r with
    | none => rw [e] at h; cases h
    | some k =>
      rw [e] at h
      cases h
      rw [oisOf_ok e]
      rfl
  | .none :: r, l, h => by
    unfold oisOf at h
    cases e : oisOf r with
    | none => rw [e] at h; cases h
    | some k =>
      rw [e] at h
      cases h
      rw [oisOf_ok e]
      rfl
theorem o_ixOi {y : Ent} {ds : List PyData} {i : Int} {os : List (Option Int)} (hd : LD M y ds) (hx : oisOf ds = some os) (hn : (os.any (·.isNone)) = true) (h0 : 0 ≤ i) (h1 : i < (os.length : Int)) (q : ∀ x, x ∈ os → P (.d (oiE x)) M) : O2 J (rIx J.K) y (.d (.int i)) M P := by
  have e := oisOf_ok hx
  have hi : i.toNat < os.length := by omega
  refine o_ixL (d := oiE os[i.toNat]) hd (atI_nat' h0 ?_) (q _ (List.getElem_mem hi))
  rw [e, List.getElem?_map, List.getElem?_eq_getElem hi]
  rfl
end
/-! ## isinstance(e, (C, D, ..)) in an except suite -/
def rIsXT (K : PySem.W.Frag) (a : Addr) (cls : Value) (d : Option Addr) (cvs : List Addr) (tab : List (Addr × Bool)) : List V → Hp → VK → Prop := fun xs H Q => ∃ (D : Addr) (b : Bool) (tp : Addr), cls = .ref D ∧ (D, b) ∈ tab ∧ (∀ dd, d = some dd → ∃ fs, H dd = some (.xd fs)) ∧ xs = [.ref a, .ref tp] ∧ H tp = some (.tup (cvs.map V.ref)) ∧ Q (.bl b) H
def IsTabT (K : PySem.W.Frag) (cvs : List Addr) (tab : List (Addr × Bool)) : Prop := ∀ p ∈ tab, ExcC K p.1 ∧ PySem.W.kitAny K (.ref p.1) (cvs.map Value.ref) = some p.2
theorem refs_vals : ∀ {cs : List Addr} {us : List Value}, Paired RelV (cs.map V.ref) us → us = cs.map Value.ref
  | [], _, .nil => rfl
  | c :: cs, _, .cons h r => by
    rw [List.map_cons, ← refs_vals r]
    congr 1
theorem call_isXT {X : Cx} {K : PySem.W.Frag} {a : Addr} {oe : Obj} {cls : Value} {cvs : List Addr} {d : Option Addr} {pn : List (Addr × Obj)} {tab : List (Addr × Bool)} (h : X.K = K) (hC : IsTabT K cvs tab) (hz : Zc cls d oe) (hf : ∃ vs, oe.data = .fields vs) : CallR (X.suite a ((a, oe) :: pn)) (.builtin "isinstance") (rIsXT K a cls d cvs tab) := by
  subst h
  intro pins s σ H xs us Q I r h
  obtain ⟨D, b, tp, ec, hm, hd, rfl, hT, q⟩ := h
  obtain ⟨C, e⟩ := hC _ hm
  cases r with
  | cons rx rr =>
    cases rr with
    | cons rt rr =>
      cases rr
      cases rx
      cases rt
      obtain ⟨hget, _⟩ := I.pin (a, oe) (List.mem_append.mpr (.inl List.mem_cons_self))
      obtain ⟨vs, hv⟩ := hf
      obtain ⟨od, J⟩ : ∃ od, PySem.W.InstAt s.heap a oe D od := by
        cases d with
        | none => exact ⟨none, hget, by rw [hz.1, ec], by unfold PySem.W.notCls; rw [hv] <;> rfl, by rw [hz.2]; trivial⟩
        | some dd =>
          obtain ⟨fs, ed⟩ := hd dd rfl
          obtain ⟨mA, hns, hr⟩ := (show ObjOk X.prog X.w H s.heap dd (.xd fs) from I.hok dd _ ed)
          obtain ⟨od, ho, hl⟩ := lookIn_ns hns
          exact ⟨some od, hget, by rw [hz.1, ec], by unfold PySem.W.notCls; rw [hv] <;> rfl, by rw [hz.2]; exact ho⟩
      obtain ⟨_, its, rv, o, h1, h2, n, h3⟩ := (show ObjOk X.prog X.w H s.heap tp (.tup (cvs.map V.ref)) from I.hok tp _ hT)
      have e3 := refs_vals rv
      subst e3
      obtain ⟨oc, od', dt, sl⟩ := o
      simp only at h2 h3
      subst h2 h3
      exact PySem.W.kia_tup (PySem.W.zc_kitx C) I.kIn J h1 e (fun z => nomatch z) fun tk => ⟨.bl b, H, I.kept (t' := tk) fun _ _ z => z, rfl, q⟩
def fKitA (x : Str) (ys : List Str) (b : Bool) : Fct := fun K => decide (PySem.W.kitAny K (.ref (He.ga K x)) ((ys.map (He.ga K)).map Value.ref) = some b)
theorem ita_nil {K : PySem.W.Frag} {cvs : List Addr} : IsTabT K cvs [] := fun _ h => by cases h
theorem ita_cons {K : PySem.W.Frag} {x : Str} {ys : List Str} {b : Bool} {tab : List (Addr × Bool)} (h1 : fExcC x K = true) (h : fKitA x ys b K = true) (r : IsTabT K (ys.map (He.ga K)) tab) : IsTabT K (ys.map (He.ga K)) ((He.ga K x, b) :: tab) := fun p hp => by
  rcases List.mem_cons.mp hp with rfl | hp
  · exact ⟨excC_ok h1, of_decide_eq_true h⟩
  · exact r p hp
/-- the argument list: e, a tuple of class objects -/
def tCls : List Addr → TA
  | [] => tNil
  | c :: cs => tCons (tC (.ref c)) (tCls cs)
theorem tCls_run : ∀ {cs : List Addr} {σ : L2.St} {H : Hp} {Q : List V → Hp → Prop}, Q (cs.map V.ref) H → tCls cs σ H Q
  | [], _, _, _, q => q
  | c :: cs, σ, H, Q, q => by
    show tCls cs σ H fun vs H1 => Q (.ref c :: vs) H1
    exact tCls_run q
def tIsXT (K : PySem.W.Frag) (a : Addr) (cls : Value) (d : Option Addr) (cvs : List Addr) (tab : List (Addr × Bool)) (te : TE) : TE := tCB (rIsXT K a cls d cvs tab) (tCons te (tCons (tTup (tCls cvs)) tNil))
section
variable {J : Jx} {Γ : Ga} {M : Ms} {P : Ent → Ms → Prop} {a : Addr} {cls : Value} {od : Option Addr} {xs : List (Str × Ent)} {tab : List (Addr × Bool)} {cvs : List Addr} {te : TE} {G0 : Wd → Prop}
theorem w_isXT {D : Addr} {b : Bool} (hG : J.G = fun F => G0 F ∧ XdOk J.K F od xs) (hc : cls = .ref D) (hm : (D, b) ∈ tab) (hz : cvs.length ≤ 100) (h : Wx J te Γ M fun x M1 => x = .g a ∧ P (.d (.bool b)) M1) : Wx J (tIsXT J.K a cls od cvs tab te) Γ M P := fun F Z σ H en m x Q q =>
  h F Z σ H en m x _ fun v F1 H1 e M1 s1 m1 r1 ⟨ee, p⟩ => by
    subst ee
    show tTup (tCls cvs) σ H1 _
    refine tCls_run ?_
    refine ⟨by rw [List.length_map, sizeLine]; omega, fun tp n => ?_⟩
    obtain ⟨s2, m2⟩ := m1.newF (o := .tup (cvs.map V.ref)) n
    have hx := (x.mono (s1.trans s2)).g _ (Same.refl _)
    rw [hG] at hx
    refine ⟨D, b, tp, hc, hm, fun dd ed => ?_, ?_, upd_same, q _ _ _ (.d (.bool b)) M1 (s1.trans s2) m2 (Rp.bl b) p⟩
    · subst ed
      obtain ⟨vs, e1, _⟩ := hx.2
      exact ⟨vs, m2.sub _ _ e1⟩
    · cases r1
      rfl
end
end Z
namespace Z
open PySem PySem.Spec L2
theorem ke_isXT {X : Cx} {K : PySem.W.Frag} {e : Expr} {a : Addr} {cls : Value} {od : Option Addr} {cvs : List Addr} {tab : List (Addr × Bool)} {te : TE} (h : PE X e (tCB (rIsXT K a cls od cvs tab) (tCons te (tCons (tTup (tCls cvs)) tNil)))) : PE X e (tIsXT K a cls od cvs tab te) := h
end Z
namespace Z
open PySem PySem.Spec L2
/-! ## raise C(), C an own class without __init__ -/
theorem pmk_own0Z {X : Cx} {K : PySem.W.Frag} {cn : Str} {p pos : Pos} (h : X.K = K) (hx : fXo cn K = true) (hm : X.mg cn = some (.ref (He.ga K cn))) (hg : Gl X cn)
    (hdb : (cn == ("__debug__" : Str)) = false := by decide) : PMk X (.Call (.Name cn p) [] [] pos) (tMk0 (He.ga K cn)) := by
  subst h
  obtain ⟨a1, hx⟩ := He.ba hx
  obtain ⟨a2, hx⟩ := He.ba hx
  obtain ⟨a3, a4⟩ := He.ba hx
  intro pins s σ H Q I k
  refine wpAny_Call_Name_kw (ld_glob I hg hm ?_ hdb)
  refine PySem.W.callWith_K0 I.kIn a2 ?_
  show wpAny _ _ (call (.ref (He.ga X.K cn)) []) _ _ _
  obtain ⟨bm, N, nm, qn, bs, hdct, sn, sub, ab, col, dd, k0, k1, k2, k3, k5, mN, hC, hN, hni, T⟩ := exc_obj I.kIn a1
  refine wpAny_call_exc_subT PySem.F.excBase_ValueError T hC hN hni (fun h' e z => ?_) (Nat.zero_le _)
  exact mk_of I z (raises_own (of_decide_eq_true a3) (of_decide_eq_true a4)) k (I.hok.gone z.new)
theorem pmk_own0N {X : Cx} {K : PySem.W.Frag} {cn : Str} {p pos : Pos} (h : X.K = K) (hx : fXo cn K = true) (hm : X.mg cn = some (.ref (He.ga K cn))) (hg : Gl X cn)
    (hdb : (cn == ("__debug__" : Str)) = false := by decide) : L2N.PMk X (.Call (.Name cn p) [] [] pos) (tMk0 (He.ga K cn)) := by
  subst h
  obtain ⟨a1, hx⟩ := He.ba hx
  obtain ⟨a2, hx⟩ := He.ba hx
  obtain ⟨a3, a4⟩ := He.ba hx
  intro pins s σ H Q I k
  refine wpAny_Call_Name_kw (ld_glob I hg hm ?_ hdb)
  refine PySem.W.callWith_K0 I.kIn a2 ?_
  show wpAny _ _ (call (.ref (He.ga X.K cn)) []) _ _ _
  obtain ⟨bm, N, nm, qn, bs, hdct, sn, sub, ab, col, dd, k0, k1, k2, k3, k5, mN, hC, hN, hni, T⟩ := exc_obj I.kIn a1
  refine wpAny_call_exc_subT PySem.F.excBase_ValueError T hC hN hni (fun h' e z => ?_) (Nat.zero_le _)
  exact L2N.mk_of I z (raises_own (of_decide_eq_true a3) (of_decide_eq_true a4)) k (I.hok.gone z.new)
end Z
namespace Z
open PySem PySem.Spec L2
/-! ## defs of a module that have defaults or keyword-only names -/
structure CaQ (P : Program) (w : World) (K : PySem.W.Frag) (mg : Str → Option Value) (base : Heap) (cx : CXT) (x : Str) (st : Stmt) (dvs : List V) (kwl : List (Str × V)) (k : Nat) (ps : List Str) (c : ASp) : Prop where
  ex : ∃ fd : FuncData, FnOk P w K mg base cx k (He.ga K x) fd ps (spA K c) ∧ FunB K x x (defArgs st) (defBody st) (defScope st) dvs kwl fd ∧ PySem.W.keepIn K (.ref (He.ga K x)) = true
  gl : mg x = some (.ref (He.ga K x))
theorem caq_of {fs : List Fct} {fn : List DefQ} {K : PySem.W.Frag} {mg : Str → Option Value} {P : Program} {w : World} {base : Heap} {cx : CXT} {x : Str} {st : Stmt} {dfl : List He.Dv} {kwd : List (Str × He.Dv)} {k : Nat} {ps : List Str} {c : ASp} (T : Top fs fn K mg) (i j : Nat) (hi : fn[i]? = some (dm (x, none) x x st dfl kwd none)) (hj : fs[j]? = some (fGlo x))
    (ok : ∀ fd, FunD K x x (defArgs st) (defBody st) (defScope st) (dfl.map (He.Dv.v K)) (kwd.map fun q => (q.1, q.2.v K)) (He.ga K x) fd → FnOk P w K mg base cx k (He.ga K x) fd ps (spA K c)) : CaQ P w K mg base cx x st (dfl.map (He.Dv.v K)) (kwd.map fun q => (q.1, q.2.v K)) k ps c := by
  obtain ⟨fd, F⟩ := T.def_ i hi rfl
  have F2 : FunD K x x (defArgs st) (defBody st) (defScope st) (dfl.map (He.Dv.v K)) (kwd.map fun q => (q.1, q.2.v K)) (He.ga K x) fd := F
  exact ⟨⟨fd, ok fd F2, b_of F2, F2.kp⟩, T.glo j hj⟩
section
variable {X : Cx} {K : PySem.W.Frag} {cx : CXT} {k j n : Nat} {ks ps : List Str} {ix : List Nat} {c : ASp} {x : Str} {st : Stmt} {dvs cvs : List V} {kwl : List (Str × V)} {p pos : Pos} {e : Expr} {es : List Expr} {kws : List Keyword} {t tk : TA} {E : L2.St → XK}
theorem ke_caQ (h : X.K = K) (C : CaQ X.prog X.w K X.mg X.base cx x st dvs kwl k ps c) (hr : Room j X.A) (hk : k ≤ j) (hg : Gl X x) (hx : ∀ σ, PassesAt cx X σ (E σ)) (hb : ∀ fd, FunB K x x (defArgs st) (defBody st) (defScope st) dvs kwl fd → KBp K fd ps n ks cvs ix)
    (ha : PA X (e :: es) t) (hkw : PK X kws tk) (hall : (backToKw pos (keywordEach kws X.env)).all (·.1.isSome) = true := by rfl) (hks : (backToKw pos (keywordEach kws X.env)).filterMap (·.1) = ks := by rfl)
    (hdb : (x == ("__debug__" : Str)) = false := by decide) (he : starEach (e :: es) X.env = (false, eval e X.env) :: starEach es X.env := by rfl)
    (hpl : ((backTo pos (starEach (e :: es) X.env)).any (·.1) || (backToKw pos (keywordEach kws X.env)).any (·.1.isNone)) = false := by rfl) :
    PE X (.Call (.Name x p) (e :: es) kws pos) (tCaN n ks.length (spA K c) cvs ix E t tk) := by
  subst h
  obtain ⟨fd, F, B, kp⟩ := C.ex
  exact pe_caN F (hr.mono hk) hg C.gl kp (hb fd B) hx ha hkw hall hks hdb he hpl
end
end Z
namespace Z
open PySem PySem.Spec L2
/-! ## lists of flat data and of flat lists and tuples, compared -/
def flat2 : PyData → Bool
  | .list l => l.all flatOk
  | .tuple l => l.all flatOk
  | d => flatOk d
theorem flat2_lay : ∀ {ds : List PyData}, ds.all flat2 = true → noObjs ds = true ∧ PyData.canLayAll0 ds = true ∧ PyData.depthAll ds ≤ 1
  | [], _ => ⟨rfl, rfl, Nat.zero_le _⟩
  | d :: ds, h => by
    rw [List.all_cons, Bool.and_eq_true] at h
    obtain ⟨h1, h2, h3⟩ := flat2_lay h.2
    cases d with
    | none => exact ⟨h1, h2, by show max 0 (PyData.depthAll ds) ≤ 1; omega⟩
    | bool b => exact ⟨h1, h2, by show max 0 (PyData.depthAll ds) ≤ 1; omega⟩
    | int i => exact ⟨h1, h2, by show max 0 (PyData.depthAll ds) ≤ 1; omega⟩
    | str s =>
      obtain ⟨a1, a2, a3, -⟩ := flat_lay (ds := [.str s]) (by rw [List.all_cons, List.all_nil, Bool.and_true]; exact h.1)
      have a4 : PyData.strOk s = true := by
        have : (PyData.strOk s && true) = true := a2
        rwa [Bool.and_true] at this
      exact ⟨h1, by show (PyData.strOk s && _) = true; rw [h2, a4]; rfl, by show max 0 (PyData.depthAll ds) ≤ 1; omega⟩
    | list l =>
      obtain ⟨a1, a2, a3, -⟩ := flat_lay (ds := l) h.1
      exact ⟨by show (noObjs l && noObjs ds) = true; rw [a1, h1]; rfl, by show (PyData.canLayAll0 l && _) = true; rw [a2, h2]; rfl, by show max (PyData.depthAll l + 1) (PyData.depthAll ds) ≤ 1; omega⟩
    | tuple l =>
      obtain ⟨a1, a2, a3, -⟩ := flat_lay (ds := l) h.1
      exact ⟨by show (noObjs l && noObjs ds) = true; rw [a1, h1]; rfl, by show (PyData.canLayAll0 l && _) = true; rw [a2, h2]; rfl, by show max (PyData.depthAll l + 1) (PyData.depthAll ds) ≤ 1; omega⟩
    | dict _ => cases h.1
theorem flat2_shape {ds : List PyData} (h : ds.all flat2 = true) : noObj (.list ds) = true ∧ SeqAt.shaped (.list ds) = true := by
  obtain ⟨h1, h2, h3⟩ := flat2_lay h
  refine ⟨h1, ?_⟩
  show (PyData.canLayAll0 ds && decide (PyData.depthAll ds + 1 ≤ 64)) = true
  rw [h2, decide_eq_true (by omega)]
  rfl
theorem flat_flat2 {ds : List PyData} (h : ds.all flatOk = true) : ds.all flat2 = true := by
  rw [List.all_eq_true] at h ⊢
  intro d hd
  have := h d hd
  cases d <;> first | exact this | cases this
section
variable {J : Jx} {M : Ms} {P : Ent → Ms → Prop} {x y : Ent} {as bs : List PyData}
theorem o_eqF2 (h1 : DV M x (.list as)) (h2 : DV M y (.list bs)) (ha : as.all flat2 = true) (hb : bs.all flat2 = true) (p : P (.d (.bool (PyData.eqvAll as bs))) M) : O2 J (rEqU J.K) x y M P :=
  o_eqL h1 h2 (flat2_shape ha).1 (flat2_shape hb).1 (flat2_shape ha).2 (flat2_shape hb).2 p
theorem o_neF2 (h1 : DV M x (.list as)) (h2 : DV M y (.list bs)) (ha : as.all flat2 = true) (hb : bs.all flat2 = true) (p : P (.d (.bool (!PyData.eqvAll as bs))) M) : O2 J (rNeU J.K) x y M P :=
  o_neL h1 h2 (flat2_shape ha).1 (flat2_shape hb).1 (flat2_shape ha).2 (flat2_shape hb).2 p
end
theorem eqvAll_nil {as : List PyData} : PyData.eqvAll as [] = decide (as = []) := by
  cases as <;> simp [PyData.eqvAll]
end Z
set_option Elab.async false
set_option linter.all false
set_option maxRecDepth 100000
set_option maxHeartbeats 4000000
set_option synthInstance.maxHeartbeats 4000000
set_option synthInstance.maxSize 100000
namespace K53
open PySem PySem.Spec L2 Z
def P : Program := PySem.Challenge.rw_hopkeep_k53_soundness.prog
theorem P_top : (P.main.scope.names.lookup ("super" : Str)).isSome = false := by kernel_rfl
def topS (i : Nat) : Stmt := PySem.Challenge.pw_hopkeep_k53_soundness.main.body.getD i (.Pass ⟨0, 0, 0, 0⟩)
abbrev fCls (x : Str) : Fct := fun K => (He.Fa.cls x).ok K
abbrev fNoat (x f : Str) : Fct := fun K => (He.Fa.noat x f).ok K
abbrev fMeth (x m : Str) : Fct := fun K => (He.Fa.meth x m).ok K
abbrev fMkr (x : Str) : Fct := fun K => (He.Fa.mkr x).ok K

def fn : List DefQ := [dd "consists_of" (topS 4),
  dd "list_elements" (topS 5),
  dd "is_allowed" (topS 22),
  dm ("Kind", some "keep_field") "keep_field" "Kind.keep_field" (inClass (topS 24) 1) [] [] none,
  dd "tells_lifetime" (topS 26),
  dm ("Clock", some "__init__") "__init__" "Clock.__init__" (inClass (topS 32) 0) [(He.Dv.int (0)), (He.Dv.int (0))] [] none,
  dr ("Clock", some "span") "span" "Clock.span" (inClass (topS 32) 1) [] [],
  dr ("Setting", some "hops") "hops" "Setting.hops" (inClass (topS 33) 1) [] [],
  dd "number_or_zero" (topS 42),
  dm ("Make", some "__init__") "__init__" "Make.__init__" (inClass (topS 43) 1) [] [("shared", He.Dv.bl true), ("grace", He.Dv.int (0)), ("error_grace", He.Dv.int (0)), ("tells", He.Dv.bl true), ("dates", He.Dv.bl false), ("checks", He.Dv.bl true), ("share", He.Dv.int (0)), ("cap", He.Dv.int (0)), ("durable", He.Dv.bl false), ("room", He.Dv.int (8))] none,
  dm ("StrictMake", some "__init__") "__init__" "Make.__init__" (inClass (topS 43) 1) [] [("shared", He.Dv.bl true), ("grace", He.Dv.int (0)), ("error_grace", He.Dv.int (0)), ("tells", He.Dv.bl true), ("dates", He.Dv.bl false), ("checks", He.Dv.bl true), ("share", He.Dv.int (0)), ("cap", He.Dv.int (0)), ("durable", He.Dv.bl false), ("room", He.Dv.int (8))] none,
  dm ("Make", some "lifetime") "lifetime" "Make.lifetime" (inClass (topS 43) 6) [] [] none,
  dm ("StrictMake", some "lifetime") "lifetime" "Make.lifetime" (inClass (topS 43) 6) [] [] none,
  dm ("OwnMake", some "lifetime") "lifetime" "Make.lifetime" (inClass (topS 43) 6) [] [] none,
  dm ("Make", some "keeps") "keeps" "Make.keeps" (inClass (topS 43) 7) [] [] none,
  dm ("StrictMake", some "keeps") "keeps" "Make.keeps" (inClass (topS 43) 7) [] [] none,
  dm ("OwnMake", some "keeps") "keeps" "Make.keeps" (inClass (topS 43) 7) [] [] none,
  dm ("StrictMake", some "allowance") "allowance" "StrictMake.allowance" (inClass (topS 44) 2) [] [] none,
  dm ("StrictMake", some "error_allowance") "error_allowance" "StrictMake.error_allowance" (inClass (topS 44) 3) [] [] none,
  dd "_law_purse" (topS 47),
  dd "_law_take" (topS 48),
  dd "_law_known" (topS 55),
  dd "_law_sound" (topS 56),
  dd "_law_part" (topS 57),
  dd "read_number" (topS 6),
  dd "is_allowed_or_none" (topS 23),
  dm ("Make", some "allowance") "allowance" "Make.allowance" (inClass (topS 43) 8) [] [] none,
  dm ("OwnMake", some "allowance") "allowance" "Make.allowance" (inClass (topS 43) 8) [] [] none,
  dd "_law_make_row" (topS 49),
  dd "_law_kind_row" (topS 50),
  dd "read_numbered" (topS 11),
  dm ("Kind", some "__init__") "__init__" "Kind.__init__" (inClass (topS 24) 0) [] [("shared_lasts", He.Dv.non), ("late", He.Dv.int (0)), ("on_error", He.Dv.int (0)), ("strict", He.Dv.bl false), ("check", He.Dv.bl false), ("own", He.Dv.bl false), ("never", He.Dv.bl false), ("mark", He.Dv.str "strong"), ("dated", He.Dv.bl false), ("margin", He.Dv.int (0))] none,
  dm ("Setting", some "__init__") "__init__" "Setting.__init__" (inClass (topS 33) 0) [] [("clocks", He.Dv.non), ("delays", He.Dv.non), ("loses", He.Dv.bl false)] none,
  dm ("Make", some "error_allowance") "error_allowance" "Make.error_allowance" (inClass (topS 43) 9) [] [] none,
  dm ("OwnMake", some "error_allowance") "error_allowance" "Make.error_allowance" (inClass (topS 43) 9) [] [] none,
  dm ("OwnMake", some "__init__") "__init__" "OwnMake.__init__" (inClass (topS 45) 1) [] [("shared", He.Dv.bl false), ("grace", He.Dv.int (0)), ("error_grace", He.Dv.int (0)), ("tells", He.Dv.bl true), ("dates", He.Dv.bl false), ("checks", He.Dv.bl true), ("share", He.Dv.int (0)), ("cap", He.Dv.int (0)), ("durable", He.Dv.bl false), ("room", He.Dv.int (8))] (some (P.main.file, "OwnMake")),
  dd "_law_world" (topS 51),
  dd "least_numbers" (topS 12),
  dm ("Directives", some "__init__") "__init__" "Directives.__init__" (inClass (topS 13) 0) [] [] none,
  dm ("Setting", some "part") "part" "Setting.part" (inClass (topS 33) 3) [] [] none,
  dd "_law_make" (topS 52),
  dd "_law_kind" (topS 53),
  dd "_law_setting" (topS 54),
  dr ("Directives", some "read") "read" "Directives.read" (inClass (topS 13) 1) [] [],
  dd "kind_directives" (topS 25),
  dm ("serve_limit", none) "serve_limit" "serve_limit" (topS 27) [] [("on_error", He.Dv.bl false)] none,
  dd "keeps_kind" (topS 36),
  dd "limits" (topS 34),
  dd "checking_hops" (topS 37),
  dd "sound" (topS 38),
  dd "_law_answer" (topS 58),
  dd "_law_right" (topS 59),
  dd "law" (topS 60)]
def fa : List Fct := [fFree "all",
  fGlo "consists_of",
  fGlo "list_elements",
  fInt "MOST_NUMBER" 999999,
  fGlo "is_allowed",
  fCls "Kind",
  fNoat "Kind" "never",
  fNoat "Kind" "own",
  fNoat "Kind" "check",
  fNoat "Kind" "strict",
  fNoat "Kind" "on_error",
  fNoat "Kind" "late",
  fNoat "Kind" "shared_lasts",
  fNoat "Kind" "lasts",
  fCls "OwnMake",
  fNoat "OwnMake" "shared",
  fCls "StrictMake",
  fNoat "StrictMake" "shared",
  fCls "Make",
  fNoat "Make" "shared",
  fGlo "tells_lifetime",
  fCls "Clock",
  fNoat "Clock" "ahead",
  fNoat "Clock" "behind",
  fInt "MOST_BOUND" 1000,
  fFree "len",
  fCls "Setting",
  fNoat "Setting" "makes",
  fGlo "number_or_zero",
  fNoat "OwnMake" "room",
  fNoat "StrictMake" "room",
  fNoat "Make" "room",
  fNoat "OwnMake" "durable",
  fNoat "StrictMake" "durable",
  fNoat "Make" "durable",
  fNoat "OwnMake" "cap",
  fNoat "StrictMake" "cap",
  fNoat "Make" "cap",
  fNoat "OwnMake" "share",
  fNoat "StrictMake" "share",
  fNoat "Make" "share",
  fNoat "OwnMake" "checks",
  fNoat "StrictMake" "checks",
  fNoat "Make" "checks",
  fNoat "OwnMake" "dates",
  fNoat "StrictMake" "dates",
  fNoat "Make" "dates",
  fNoat "OwnMake" "tells",
  fNoat "StrictMake" "tells",
  fNoat "Make" "tells",
  fNoat "OwnMake" "error_grace",
  fNoat "StrictMake" "error_grace",
  fNoat "Make" "error_grace",
  fNoat "OwnMake" "grace",
  fNoat "StrictMake" "grace",
  fNoat "Make" "grace",
  fInt "MOST_ROOM" 100,
  fInt "MOST_SHARE" 100,
  fFree "min",
  fFree "max",
  fCls "Directives",
  fNoat "Directives" "lasts",
  fNoat "Directives" "shared_lasts",
  fNoat "Directives" "own",
  fNoat "Directives" "never",
  fFree "int",
  fFree "range",
  fGlo "_law_purse",
  fGlo "_law_take",
  fGlo "_law_known",
  fGlo "_law_sound",
  fGlo "_law_part",
  fInt "MOST_DIGITS" 6,
  fStr "DIGITS" "0123456789",
  fGlo "read_number",
  fGlo "is_allowed_or_none",
  fNoat "Directives" "late",
  fNoat "Directives" "any_late",
  fNoat "Directives" "strict",
  fGlo "_law_make_row",
  fGlo "_law_kind_row",
  fGlo "LIFETIME_NAMES",
  fTup "LIFETIME_NAMES" [He.Dv.str "lasts", He.Dv.str "shared-lasts"],
  fGlo "NUMBER_NAMES",
  fTup "NUMBER_NAMES" [He.Dv.str "lasts", He.Dv.str "shared-lasts", He.Dv.str "late", He.Dv.str "on-error", He.Dv.str "age", He.Dv.str "fresh"],
  fGlo "read_numbered",
  fNoat "Kind" "margin",
  fNoat "Kind" "dated",
  fNoat "Kind" "mark",
  fGlo "MARK_WORDS",
  fTup "MARK_WORDS" [He.Dv.str "strong", He.Dv.str "weak", He.Dv.str "none"],
  fNoat "Setting" "loses",
  fFree "list",
  fNoat "Setting" "delays",
  fMkr "Clock",
  fGlo "Clock",
  fNoat "Setting" "clocks",
  fNoat "Setting" "kind",
  fInt "MOST_DELAY" 1000,
  fInt "MOST_HOPS" 6,
  fNoat "Directives" "on_error",
  fMeth "OwnMake" "allowance",
  fMeth "StrictMake" "allowance",
  fMeth "Make" "allowance",
  fSup "OwnMake" "OwnMake" "__init__" "Make",
  fFree "super",
  fGlo "_law_world",
  fGlo "least_numbers",
  fNoat "Directives" "kept",
  fNoat "Directives" "check",
  fNoat "Directives" "fresh",
  fNoat "Directives" "age",
  fMkr "Setting",
  fGlo "Setting",
  fProp "Setting" "Setting" "hops",
  fMkr "Make",
  fGlo "Make",
  fMkr "OwnMake",
  fGlo "OwnMake",
  fMkr "StrictMake",
  fGlo "StrictMake",
  fGlo "_law_make",
  fMkr "Kind",
  fGlo "Kind",
  fGlo "_law_kind",
  fGlo "_law_setting",
  fMkr "Directives",
  fGlo "Directives",
  fStat "Directives" "read",
  fMeth "Kind" "keep_field",
  fGlo "kind_directives",
  fMeth "OwnMake" "lifetime",
  fMeth "StrictMake" "lifetime",
  fMeth "Make" "lifetime",
  fMeth "OwnMake" "error_allowance",
  fMeth "StrictMake" "error_allowance",
  fMeth "Make" "error_allowance",
  fMeth "OwnMake" "keeps",
  fMeth "StrictMake" "keeps",
  fMeth "Make" "keeps",
  fGlo "NoLifetime",
  fXo "NoLifetime",
  fGlo "serve_limit",
  fGlo "keeps_kind",
  fGlo "limits",
  fFree "enumerate",
  fGlo "checking_hops",
  fProp "Clock" "Clock" "span",
  fGlo "sound",
  fExm "NoLifetime" "NoLifetime" true,
  fExcC "NoLifetime",
  fKit "NoLifetime" "HopError" true,
  fFree "isinstance",
  fGlo "HopError",
  fKitA "NoLifetime" ["InvalidValue", "InvalidEvent"] false,
  fGlo "InvalidEvent",
  fGlo "InvalidValue",
  fGlo "_law_answer",
  fFree "bool",
  fGlo "_law_right",
  fMeth "Setting" "part",
  fGlo "law"]
/-! the run -/
abbrev zrow : PySem.W.OpenRow := PySem.W.OpenLaw.row PySem.Challenge.rw_hopkeep_k53_soundness
abbrev zhk : PySem.W.Hook := Z.hookQ 6 fa fn
def zob (s : PySem.W.SharedT) : He.AlD := Z.obsQG 6 fa fn (HandSHeadRun.getT s)
theorem zob_eq (s : PySem.W.SharedT) : zob s = zhk.obs s.abs := Z.obsQG_eq (HandSHeadRun.getT_eq s)
def zloose : List PySem.Str := (["_wall", "DIGITS", "MOST_DIGITS", "consists_of", "list_elements", "read_number", "KEEP_NAME", "LIFETIME_NAMES", "NUMBER_NAMES", "read_numbered", "least_numbers", "Directives", "HopError", "InvalidValue", "NoLifetime", "InvalidEvent", "MARK_WORDS", "MOST_NUMBER", "is_allowed", "is_allowed_or_none", "Kind", "kind_directives", "tells_lifetime", "serve_limit", "MOST_HOPS", "MOST_BOUND", "MOST_DELAY", "Clock", "Setting", "limits"] : List PySem.Str) ++ (["keeps_kind", "checking_hops", "sound", "MOST_SHARE", "MOST_ROOM", "number_or_zero", "Make", "StrictMake", "OwnMake", "_law_purse", "_law_take", "_law_make_row", "_law_kind_row", "_law_world", "_law_make", "_law_kind", "_law_setting", "_law_known", "_law_sound", "_law_part", "_law_answer", "_law_right"] : List PySem.Str)
theorem zrun (w : World) : HandSHeadRun.RunEq zrow (PySem.W.view zrow.prog [60]) zhk zob 12000 zloose w := by
  intro os
  kernel_rfl
/-! the plain part -/

open PySem.NumText
def plainC (c : Nat) : Bool := decide (32 ≤ c) && (decide (c ≤ 126) && !decide (c = 37))
def allIn (s t : Str) : Bool := (cs s).all fun c => decide (c ∈ cs t)
theorem map_get {α β : Type} {f : α → β} {xs : List α} {i : Nat} {y : β} (h : (xs.map f)[i]? = some y) : ∃ x, xs[i]? = some x ∧ y = f x := by
  rw [List.getElem?_map] at h
  cases e : xs[i]? with
  | none => rw [e] at h; cases h
  | some x => rw [e] at h; exact ⟨x, rfl, (Option.some.inj h).symm⟩
theorem take_succ {α : Type} {xs : List α} {i : Nat} {x : α} (h : xs[i]? = some x) : xs.take (i + 1) = xs.take i ++ [x] := by
  rw [List.take_add_one, h]; rfl
theorem drop_cons {α : Type} {xs : List α} {i : Nat} {x : α} (h : xs[i]? = some x) : xs.drop i = x :: xs.drop (i + 1) := by
  obtain ⟨h1, h2⟩ := List.getElem?_eq_some_iff.mp h
  rw [List.drop_eq_getElem_cons h1, h2]
theorem sg_map (s : Str) : sgE s = (cs s).map fun c => Ent.d (.str ⟨#[c]⟩) := rfl
theorem str_one_inj {c d : Nat} : ((⟨#[c]⟩ : Str) = ⟨#[d]⟩) ↔ c = d := by
  constructor
  · intro h
    have e := congrArg cs h
    simpa using e
  · intro h
    rw [h]
abbrev SIGNS : Str := Str.ofString " !\"#$&'()*+,-./0123456789:;<=>?@ABCDEFGHIJKLMNOPQRSTUVWXYZ[\\]^_`" ++ Str.ofString "abcdefghijklmnopqrstuvwxyz{|}~"
abbrev LETTERS : Str := "abcdefghijklmnopqrstuvwxyz"
abbrev DIGITS : Str := "0123456789"
theorem signs_cs : cs SIGNS = [32, 33, 34, 35, 36, 38, 39, 40, 41, 42, 43, 44, 45, 46, 47, 48, 49, 50, 51, 52, 53, 54, 55, 56, 57, 58, 59, 60, 61, 62, 63, 64, 65, 66, 67, 68, 69, 70, 71, 72, 73, 74, 75, 76, 77, 78, 79, 80, 81, 82, 83, 84, 85, 86, 87, 88, 89, 90, 91, 92, 93, 94, 95, 96, 97, 98, 99, 100, 101, 102, 103, 104, 105, 106, 107, 108, 109, 110, 111, 112, 113, 114, 115, 116, 117, 118, 119, 120, 121, 122, 123, 124, 125, 126] := by decide +kernel
theorem letters_cs : cs LETTERS = [97, 98, 99, 100, 101, 102, 103, 104, 105, 106, 107, 108, 109, 110, 111, 112, 113, 114, 115, 116, 117, 118, 119, 120, 121, 122] := by decide +kernel
theorem digits_cs : cs DIGITS = [48, 49, 50, 51, 52, 53, 54, 55, 56, 57] := by decide +kernel
theorem plain_signs (c : Nat) : plainC c = decide (c ∈ cs SIGNS) := by
  rw [signs_cs]
  by_cases h : c < 127
  · have all : ∀ c, c < 127 → plainC c = decide (c ∈ [32, 33, 34, 35, 36, 38, 39, 40, 41, 42, 43, 44, 45, 46, 47, 48, 49, 50, 51, 52, 53, 54, 55, 56, 57, 58, 59, 60, 61, 62, 63, 64, 65, 66, 67, 68, 69, 70, 71, 72, 73, 74, 75, 76, 77, 78, 79, 80, 81, 82, 83, 84, 85, 86, 87, 88, 89, 90, 91, 92, 93, 94, 95, 96, 97, 98, 99, 100, 101, 102, 103, 104, 105, 106, 107, 108, 109, 110, 111, 112, 113, 114, 115, 116, 117, 118, 119, 120, 121, 122, 123, 124, 125, 126]) := by decide +kernel
    exact all c h
  · have h1 : plainC c = false := by
      unfold plainC
      rw [decide_eq_false (show ¬ c ≤ 126 by omega)]
      simp
    rw [h1]
    refine (decide_eq_false fun hm => ?_).symm
    have hb : ∀ x ∈ [32, 33, 34, 35, 36, 38, 39, 40, 41, 42, 43, 44, 45, 46, 47, 48, 49, 50, 51, 52, 53, 54, 55, 56, 57, 58, 59, 60, 61, 62, 63, 64, 65, 66, 67, 68, 69, 70, 71, 72, 73, 74, 75, 76, 77, 78, 79, 80, 81, 82, 83, 84, 85, 86, 87, 88, 89, 90, 91, 92, 93, 94, 95, 96, 97, 98, 99, 100, 101, 102, 103, 104, 105, 106, 107, 108, 109, 110, 111, 112, 113, 114, 115, 116, 117, 118, 119, 120, 121, 122, 123, 124, 125, 126], x < 127 := by decide +kernel
    exact h (hb c hm)
theorem plain_all (s : Str) : (cs s).all plainC = allIn s SIGNS := by
  unfold allIn
  congr 1
  funext c
  exact plain_signs c
abbrev PATHS : Str := "abcdefghijklmnopqrstuvwxyz0123456789/-."
abbrev NAMES : Str := "abcdefghijklmnopqrstuvwxyz0123456789-"
def pathB (s : Str) : Bool := decide ((cs s).head? = some 47) && (decide ((cs s).length ≤ 60) && allIn s PATHS)
def headIn (s t : Str) : Bool := match (cs s).head? with
  | some c => decide (c ∈ cs t)
  | none => false
def nameB (s : Str) : Bool := decide (1 ≤ (cs s).length) && (decide ((cs s).length ≤ 30) && (!decide (s = "length") && (headIn s LETTERS && allIn s NAMES)))
def valueB (s : Str) : Bool := decide ((cs s).length ≤ 200) && (allIn s SIGNS && decide (s = Txt.stripChars s " "))
def digB (s : Str) : Bool := decide (1 ≤ (cs s).length) && (decide ((cs s).length ≤ 6) && (allIn s DIGITS && !(decide ((cs s).head? = some 48) && !decide (s = "0"))))
def num (s : Str) : Option Int := if digB s = true then some ((digitsVal (cs s) : Nat) : Int) else none
@[reducible] def oi : Option Int → PyData
  | none => .none
  | some n => .int n
theorem dig_all {s : Str} (h : digB s = true) : AllDigits (cs s) ∧ cs s ≠ [] ∧ s.length ≤ 6 := by
  unfold digB allIn at h
  simp only [Bool.and_eq_true, decide_eq_true_eq] at h
  obtain ⟨h1, h2, h3, _⟩ := h
  refine ⟨fun c hc => ?_, fun e => ?_, by rw [len_cs]; exact h2⟩
  · have hm := List.all_eq_true.mp h3 c hc
    rw [decide_eq_true_eq, digits_cs] at hm
    simp only [List.mem_cons, List.not_mem_nil, or_false] at hm
    omega
  · rw [e] at h1
    exact absurd h1 (by decide)
theorem dig_int {s : Str} (h : digB s = true) : PySem.intText? s = some ((digitsVal (cs s) : Nat) : Int) := by
  obtain ⟨h1, h2, h3⟩ := dig_all h
  exact intText_digits h1 h2 (by omega)

def finish (p : List Nat) : List Str := if Txt.stripChars ⟨p.toArray⟩ " " = "" then [] else [Txt.stripChars ⟨p.toArray⟩ " "]
def wordsL (ps : List (List Nat)) : List Str := ps.flatMap finish
def wordsS (s : Str) : List Str := wordsL (TL.spl [44] 0 [] (cs s))
theorem comma_cs : cs (Str.ofString ",") = [44] := by decide +kernel
theorem finish_nil : finish [] = [] := by decide +kernel
theorem words_app (acc r : List Nat) : wordsL (TL.spl [44] 0 acc (r ++ [44])) = wordsL (TL.spl [44] 0 acc r) := by
  induction r generalizing acc with
  | nil =>
    rw [List.nil_append, spl1_cons, if_pos rfl, spl1_nil, spl1_nil]
    unfold wordsL
    rw [List.flatMap_cons, List.flatMap_cons, finish_nil]
    simp
  | cons c r ih =>
    rw [List.cons_append, spl1_cons, spl1_cons]
    split
    · unfold wordsL
      rw [List.flatMap_cons, List.flatMap_cons]
      have := ih []
      unfold wordsL at this
      rw [this]
    · exact ih _
theorem finish_len (p : List Nat) : (finish p).length ≤ 1 := by
  unfold finish
  split <;> simp
theorem finish_str (s : Str) : finish (cs s) = if Txt.stripChars s " " = "" then [] else [Txt.stripChars s " "] := by
  unfold finish
  rw [show (⟨(cs s).toArray⟩ : Str) = s from TL.mk_tl s]
theorem split_words (s : Str) : (Txt.split s ⟨#[44]⟩).flatMap (fun p => finish (cs p)) = wordsS s := by
  unfold wordsS wordsL
  rw [← split1 s 44 (by decide), List.flatMap_map]
theorem words_ok {s : Str} (h : allIn s SIGNS = true) : ∀ x ∈ wordsS s, okS x = true := by
  intro x hx
  unfold wordsS wordsL at hx
  rw [List.mem_flatMap] at hx
  obtain ⟨p, hp, hx⟩ := hx
  unfold finish at hx
  split at hx
  · cases hx
  · rw [List.mem_singleton] at hx
    unfold okS
    rw [List.all_eq_true]
    intro c hc
    rw [hx] at hc
    have h1 : c ∈ p := by
      have := strip_mem hc
      simpa using this
    rcases spl1_mem hp h1 with q | q
    · cases q
    · have h2 := List.all_eq_true.mp h c q
      rw [← plain_signs] at h2
      unfold plainC at h2
      simp only [Bool.and_eq_true, decide_eq_true_eq] at h2
      exact decide_eq_true (by omega)
/-! digit strings: the value is 0 only for "0" -/
theorem dv_ge (l : List Nat) (a : Nat) : a ≤ l.foldl (fun acc c => acc * 10 + (c - 48)) a := by
  induction l generalizing a with
  | nil => exact Nat.le_refl _
  | cons c l ih =>
    rw [List.foldl_cons]
    exact Nat.le_trans (by omega) (ih _)
theorem dig_zero {s : Str} (h : digB s = true) : digitsVal (cs s) = 0 ↔ s = "0" := by
  have h0 := h
  obtain ⟨h1, h2, h3⟩ := dig_all h
  have e0 : cs ("0" : Str) = [48] := by decide +kernel
  constructor
  · intro hv
    unfold digB at h
    simp only [Bool.and_eq_true, decide_eq_true_eq] at h
    obtain ⟨_, _, _, h4⟩ := h
    cases hc : cs s with
    | nil => exact absurd hc h2
    | cons c r =>
      rw [hc] at hv h4
      have hc1 : 48 ≤ c ∧ c ≤ 57 := h1 c (by rw [hc]; exact List.mem_cons_self ..)
      unfold digitsVal at hv
      rw [List.foldl_cons] at hv
      have := dv_ge r (0 * 10 + (c - 48))
      have e : c = 48 := by omega
      subst e
      simp at h4
      exact h4
  · intro e
    rw [e, e0]
    rfl
def rd (s : Str) : Option Int := if (cs s).head? = some 45 then (match num (cutS s (some 1) none) with
  | some n => if n = 0 then none else some (-n)
  | none => none) else num s
theorem num_minus {s : Str} (h : (cs s).head? = some 45) : num s = none := by
  unfold num
  have : digB s = false := by
    cases e : digB s with
    | false => rfl
    | true =>
      obtain ⟨h1, h2, h3⟩ := dig_all e
      cases hc : cs s with
      | nil => exact absurd hc h2
      | cons c r =>
        rw [hc] at h
        have e2 : c = 45 := by simpa using h
        have := h1 c (by rw [hc]; exact List.mem_cons_self ..)
        omega
  rw [this]
  rfl
theorem tail1 (s : Str) : cs (cutS s (some 1) none) = (cs s).drop 1 := cut_from s 1
theorem head1 (s : Str) : cs (cutS s none (some 1)) = (cs s).take 1 := cut_to s 1
theorem head1_eq (s : Str) (c : Nat) : (cutS s none (some 1) = ⟨#[c]⟩) ↔ (cs s).head? = some c := by
  constructor
  · intro h
    have e := congrArg cs h
    rw [head1] at e
    cases hc : cs s with
    | nil => rw [hc] at e; cases e
    | cons d r =>
      rw [hc] at e
      have e2 : [d] = [c] := e
      rw [List.head?_cons, (List.cons.inj e2).1]
  · intro h
    refine cs_inj ?_
    rw [head1]
    cases hc : cs s with
    | nil => rw [hc] at h; cases h
    | cons d r =>
      rw [hc] at h
      have e2 : d = c := Option.some.inj h
      rw [e2]
      rfl
theorem minus0 {s : Str} (h : (cs s).head? = some 45) : s = "-0" ↔ cutS s (some 1) none = "0" := by
  have e1 : cs ("-0" : Str) = [45, 48] := by decide +kernel
  have e2 : cs ("0" : Str) = [48] := by decide +kernel
  constructor
  · intro e
    refine cs_inj ?_
    rw [tail1, e, e1, e2]
    rfl
  · intro e
    have q := congrArg cs e
    rw [tail1, e2] at q
    refine cs_inj ?_
    rw [e1]
    cases hc : cs s with
    | nil => rw [hc] at h; cases h
    | cons d r =>
      rw [hc] at h q
      have : d = 45 := by simpa using h
      rw [this]
      simpa using q
theorem rd_eq {s : Str} (h : (cs s).head? = some 45) : rd s = if s = "-0" then none else if digB (cutS s (some 1) none) = true then some (0 - ((digitsVal (cs (cutS s (some 1) none)) : Nat) : Int)) else none := by
  unfold rd
  rw [if_pos h]
  unfold num
  by_cases hd : digB (cutS s (some 1) none) = true
  · rw [if_pos hd, if_pos hd]
    have hz := dig_zero hd
    rw [← minus0 h] at hz
    by_cases h0 : s = "-0"
    · rw [if_pos h0]
      have := hz.mpr h0
      simp [this]
    · rw [if_neg h0]
      have : digitsVal (cs (cutS s (some 1) none)) ≠ 0 := fun q => h0 (hz.mp q)
      simp [this]
  · rw [if_neg hd, if_neg hd]
    show none = _
    split <;> rfl

structure MakeR where
  shared : Bool
  grace : Option Int
  egrace : Int
  tells : Bool
  dates : Bool
  checks : Bool
  share : Int
  cap : Int
  durable : Bool
  room : Int
def makeN : Nat → Str
  | 0 => "Make"
  | 1 => "StrictMake"
  | _ => "OwnMake"
def makeF (r : MakeR) : List (Str × Z.Ent) := [("shared", .d (.bool r.shared)), ("grace", .d (oi r.grace)), ("error_grace", .d (.int r.egrace)), ("tells", .d (.bool r.tells)), ("dates", .d (.bool r.dates)), ("checks", .d (.bool r.checks)), ("share", .d (.int r.share)), ("cap", .d (.int r.cap)), ("durable", .d (.bool r.durable)), ("room", .d (.int r.room))]

abbrev NUMN : List Str := ["lasts", "shared-lasts", "late", "on-error", "age", "fresh"]
def rdnP (p : Str × Str × Str) : Option (Str × Int) :=
  if p.1 ∈ NUMN then (match num p.2.2 with
    | some n => some (p.1, n)
    | none => if p.1 ∈ (["lasts", "shared-lasts"] : List Str) then some (p.1, 0) else none) else none
def rdn (x : Str) : Option (Str × Int) := rdnP (Txt.partition x "=")
@[reducible] def prD (p : Str × Int) : PyData := .tuple [.str p.1, .int p.2]
@[reducible] def oprD : Option (Str × Int) → PyData
  | none => .none
  | some p => prD p
def putN (ns : List (Str × Int)) (p : Str × Int) : List (Str × Int) := if p.1 ∈ ns.map (·.1) then ns.map (fun q => if q.1 = p.1 then p else q) else ns ++ [p]
def addN (ns : List (Str × Int)) (o : Option (Str × Int)) : List (Str × Int) := match o with
  | none => ns
  | some p => match ns.lookup p.1 with
    | none => ns ++ [p]
    | some v => if p.2 < v then putN ns p else ns
def nums (ws : List Str) : List (Str × Int) := ws.foldl (fun ns e => addN ns (rdn e)) []

structure DirR where
  lasts : Option Int
  shared : Option Int
  late : Option Int
  onerr : Option Int
  age : Option Int
  fresh : Option Int
  strict : Bool
  check : Bool
  own : Bool
  never : Bool
  kept : Bool
  anylate : Bool
def dirF (r : DirR) : List (Str × Z.Ent) := [("lasts", .d (oi r.lasts)), ("shared_lasts", .d (oi r.shared)), ("late", .d (oi r.late)), ("on_error", .d (oi r.onerr)), ("age", .d (oi r.age)), ("fresh", .d (oi r.fresh)), ("strict", .d (.bool r.strict)), ("check", .d (.bool r.check)), ("own", .d (.bool r.own)), ("never", .d (.bool r.never)), ("kept", .d (.bool r.kept)), ("any_late", .d (.bool r.anylate))]
abbrev lk (ps : List (Str × Int)) (w : Str) : Option Int := ps.lookup w
def dirs (ws : List Str) : DirR := ⟨lk (nums ws) "lasts", lk (nums ws) "shared-lasts", lk (nums ws) "late", lk (nums ws) "on-error", lk (nums ws) "age", lk (nums ws) "fresh", decide (("strict" : Str) ∈ ws), decide (("check" : Str) ∈ ws), decide (("own" : Str) ∈ ws), decide (("never" : Str) ∈ ws), decide (("kept" : Str) ∈ ws), decide (("late" : Str) ∈ ws) && decide (lk (nums ws) "late" = none)⟩
abbrev kds (ps : List (Str × Int)) : List (Key × PyData) := ps.map fun p => ((Sum.inr p.1 : Key), PyData.int p.2)
theorem get_kds (ps : List (Str × Int)) (w : Str) : kGet (kds ps) (.inr w) = (ps.lookup w).map PyData.int := by
  unfold kGet kds
  induction ps with
  | nil => rfl
  | cons p ps ih =>
    obtain ⟨a, v⟩ := p
    rw [List.map_cons, List.find?_cons, List.lookup_cons]
    by_cases h : a = w
    · have h1 : decide ((Sum.inr a : Key) = .inr w) = true := decide_eq_true (by rw [h])
      simp only [h1, h, beq_self_eq_true]
      rfl
    · have h1 : decide ((Sum.inr a : Key) = .inr w) = false := decide_eq_false (fun q => h (Sum.inr.inj q))
      have h2 : (w == a) = false := by simpa using fun q => h q.symm
      simp only [h1, h2]
      exact ih
theorem getD_kds (ps : List (Str × Int)) (w : Str) : (kGet (kds ps) (.inr w)).getD .none = oi (ps.lookup w) := by
  rw [get_kds]
  cases ps.lookup w <;> rfl

theorem put_len (ns : List (Str × Int)) (p : Str × Int) : (putN ns p).length ≤ ns.length + 1 := by
  unfold putN
  split
  · rw [List.length_map]; omega
  · rw [List.length_append]; exact Nat.le_refl _
theorem add_len (ns : List (Str × Int)) (o : Option (Str × Int)) : (addN ns o).length ≤ ns.length + 1 := by
  unfold addN
  cases o with
  | none => exact Nat.le_succ _
  | some p =>
    dsimp only
    split
    · rw [List.length_append]; exact Nat.le_refl _
    · split
      · exact put_len ns p
      · exact Nat.le_succ _
theorem nums_fold (ws : List Str) (ns : List (Str × Int)) : (ws.foldl (fun ns e => addN ns (rdn e)) ns).length ≤ ns.length + ws.length := by
  induction ws generalizing ns with
  | nil => simp
  | cons w ws ih =>
    rw [List.foldl_cons, List.length_cons]
    have h1 := ih (addN ns (rdn w))
    have h2 := add_len ns (rdn w)
    omega
theorem nums_len (ws : List Str) : (nums ws).length ≤ ws.length := by
  have := nums_fold ws []
  rw [List.length_nil] at this
  unfold nums
  omega

theorem isSome_kds (ps : List (Str × Int)) (w : Str) : (kGet (kds ps) (.inr w)).isSome = (ps.lookup w).isSome := by
  rw [get_kds, Option.isSome_map]
theorem mem_look : ∀ (ps : List (Str × Int)) (w : Str), (w ∈ ps.map (·.1)) ↔ (ps.lookup w).isSome = true
  | [], w => by simp
  | (a, v) :: r, w => by
    rw [List.map_cons, List.mem_cons, List.lookup_cons]
    by_cases h : w = a
    · subst h
      simp
    · have h2 : (w == a) = false := by simpa using h
      rw [h2]
      simp only [h, false_or]
      exact mem_look r w
theorem put_kds (ps : List (Str × Int)) (p : Str × Int) : kPut (kds ps) (.inr p.1) (.int p.2) = kds (putN ps p) := by
  unfold kPut putN
  have e : ((kds ps).any fun kv => decide (kv.1 = Sum.inr p.1)) = decide (p.1 ∈ ps.map (·.1)) := by
    induction ps with
    | nil => rfl
    | cons q r ih =>
      show (decide ((Sum.inr q.1 : Key) = .inr p.1) || (kds r).any fun kv => decide (kv.1 = Sum.inr p.1)) = _
      rw [ih]
      by_cases h : q.1 = p.1
      · have h0 : decide ((Sum.inr q.1 : Key) = .inr p.1) = true := decide_eq_true (by rw [h])
        rw [h0, List.map_cons, h, decide_eq_true (List.mem_cons_self ..)]
        rfl
      · have h1 : ¬ p.1 = q.1 := fun z => h z.symm
        have h2 : decide ((Sum.inr q.1 : Key) = .inr p.1) = false := decide_eq_false (fun z => h (Sum.inr.inj z))
        rw [h2, List.map_cons]
        simp [h1]
  rw [e]
  by_cases h : p.1 ∈ ps.map (·.1)
  · rw [decide_eq_true h, if_pos rfl, if_pos h]
    unfold kds
    rw [List.map_map, List.map_map]
    refine List.map_congr_left fun q _ => ?_
    show (if (Sum.inr q.1 : Key) = .inr p.1 then ((Sum.inr q.1 : Key), PyData.int p.2) else (Sum.inr q.1, PyData.int q.2)) = (fun p => ((Sum.inr p.1 : Key), PyData.int p.2)) (if q.1 = p.1 then p else q)
    by_cases h2 : q.1 = p.1
    · rw [if_pos h2, if_pos (by rw [h2]), h2]
    · rw [if_neg h2, if_neg (fun z => h2 (Sum.inr.inj z))]
  · rw [decide_eq_false h, if_neg (by decide), if_neg h]
    unfold kds
    rw [List.map_append]
    rfl
def dirG (r : DirR) : List (Str × PyData) := [("lasts", oi r.lasts), ("shared_lasts", oi r.shared), ("late", oi r.late), ("on_error", oi r.onerr), ("age", oi r.age), ("fresh", oi r.fresh), ("strict", .bool r.strict), ("check", .bool r.check), ("own", .bool r.own), ("never", .bool r.never), ("kept", .bool r.kept), ("any_late", .bool r.anylate)]
def dirD (K : PySem.W.Frag) (r : DirR) : PyData := Z.ob (He.ga K "Directives") (dirG r)
theorem mk_dirD {K : PySem.W.Frag} {M M3 N : Ms} {P : Ent → Ms → Prop} {r : DirR} (h1 : M3[M.length]? = some (some (.ins (He.ga K "Directives") (dirF r)))) (h3 : flatMs (M3.take M.length) = true) (h4 : M3.take M.length = N) (p : P (.d (dirD K r)) N) : MkEnd M (He.ga K "Directives") P (.d .none) M3 := mk_d (gs := dirG r) h1 h3 h4 p

theorem words_len {s x : Str} (h : x ∈ wordsS s) : x.length ≤ s.length := by
  rw [← split_words, List.mem_flatMap] at h
  obtain ⟨p, hp, h⟩ := h
  rw [finish_str] at h
  split at h
  · cases h
  · rw [List.mem_singleton] at h
    rw [h]
    exact Nat.le_trans (strip_len _ _) (piece_len (by decide) hp)
theorem words_num (s : Str) : (wordsS s).length ≤ s.length + 1 := by
  unfold wordsS wordsL
  have h : ∀ l : List (List Nat), (l.flatMap finish).length ≤ l.length := by
    intro l
    induction l with
    | nil => exact Nat.le_refl _
    | cons q l ih =>
      have := finish_len q
      rw [List.flatMap_cons, List.length_append, List.length_cons]
      omega
  exact Nat.le_trans (h _) (Nat.le_trans (spl1_len _ _) (by rw [len_cs]; exact Nat.le_refl _))

def makeG (r : MakeR) : List (Str × PyData) := [("shared", .bool r.shared), ("grace", oi r.grace), ("error_grace", .int r.egrace), ("tells", .bool r.tells), ("dates", .bool r.dates), ("checks", .bool r.checks), ("share", .int r.share), ("cap", .int r.cap), ("durable", .bool r.durable), ("room", .int r.room)]
def makeD (K : PySem.W.Frag) (w : Nat) (r : MakeR) : PyData := Z.ob (He.ga K (makeN w)) (makeG r)
theorem mem_make (K : PySem.W.Frag) (w : Nat) : He.ga K (makeN w) ∈ [He.ga K "Make", He.ga K "StrictMake", He.ga K "OwnMake"] := by
  match w with
  | 0 => exact List.mem_cons_self ..
  | 1 => exact List.mem_cons_of_mem _ (List.mem_cons_self ..)
  | _ + 2 => exact List.mem_cons_of_mem _ (List.mem_cons_of_mem _ (List.mem_cons_self ..))
theorem fl_makeD {K : PySem.W.Frag} {M : Ms} {w : Nat} {r : MakeR} {f : Str} {e : Z.Ent} {R : Z.Ent → Prop} (hl : (makeF r).lookup f = some e) (p : R e) : ∃ C fs e, OV M (.d (makeD K w r)) C fs ∧ C ∈ [He.ga K "Make", He.ga K "StrictMake", He.ga K "OwnMake"] ∧ fs.lookup f = some e ∧ R e := ⟨_, _, e, OV.d rfl, mem_make K w, hl, p⟩
theorem fl_dirD {K : PySem.W.Frag} {M : Ms} {r : DirR} {f : Str} {e : Z.Ent} {R : Z.Ent → Prop} (hl : (dirF r).lookup f = some e) (p : R e) : ∃ C fs e, OV M (.d (dirD K r)) C fs ∧ C ∈ [He.ga K "Directives"] ∧ fs.lookup f = some e ∧ R e := ⟨_, _, e, OV.d rfl, List.mem_cons_self .., hl, p⟩
def lifeM (r : MakeR) (d : DirR) (date changed : Option Int) : Int := match (if r.shared then d.shared else none) with
  | some n => n
  | none => match d.lasts with
    | some n => n
    | none => match date, changed with
      | some a, some b => if r.cap < r.share * (if 0 > a - b then 0 else a - b) / 100 then r.cap else r.share * (if 0 > a - b then 0 else a - b) / 100
      | _, _ => 0

/-! the bag of draws -/
def Bg (ns : List Int) (a b n : Int) : Mo := .lst (.int a :: .int b :: .int n :: ns.map PyData.int)
/-! written words, read again -/
def NiceW (w : Str) : Prop := cs w ≠ [] ∧ 44 ∉ cs w ∧ (cs w).head? ≠ some 32 ∧ (cs w).getLast? ≠ some 32
instance (w : Str) : Decidable (NiceW w) := by unfold NiceW; exact inferInstance
theorem strip_nice {w : Str} (h : NiceW w) : Txt.stripChars w " " = w := by
  refine cs_inj ?_
  rw [strip_cs, spc_contains]
  exact trim_id (fun c hc => decide_eq_false (fun q => h.2.2.1 (by rw [hc, q]))) (fun c hc => decide_eq_false (fun q => h.2.2.2 (by rw [hc, q])))
theorem ne_empty {w : Str} (h : NiceW w) : ¬ w = "" := fun q => h.1 (by rw [q]; rfl)
theorem finish_nice {w : Str} (h : NiceW w) : finish (cs w) = [w] := by
  rw [finish_str, strip_nice h, if_neg (ne_empty h)]
theorem finish_sp {w : Str} (h : NiceW w) : finish (32 :: cs w) = [w] := by
  have e : Txt.stripChars ⟨(32 :: cs w).toArray⟩ " " = w := by
    refine cs_inj ?_
    rw [strip_cs, spc_contains]
    show trimL _ (32 :: cs w) = _
    rw [trim_cons (by simp)]
    exact trim_id (fun c hc => decide_eq_false (fun q => h.2.2.1 (by rw [hc, q]))) (fun c hc => decide_eq_false (fun q => h.2.2.2 (by rw [hc, q])))
  unfold finish
  rw [e, if_neg (ne_empty h)]
theorem words_join {ws : List Str} (h : ∀ w ∈ ws, NiceW w) : wordsS (Txt.join (Str.ofString ", ") ws) = ws := by
  unfold wordsS
  rw [join_cs, show cs (Str.ofString ", ") = [44, 32] by decide +kernel]
  cases ws with
  | nil =>
    show wordsL (TL.spl [44] 0 [] []) = []
    rw [spl1_nil]
    rfl
  | cons w r =>
    rw [List.map_cons, spl_joinC _ _ _ (by
      intro q hq
      rcases List.mem_cons.mp hq with rfl | hq
      · exact (h w (List.mem_cons_self ..)).2.1
      · obtain ⟨z, hz, rfl⟩ := List.mem_map.mp hq
        exact (h z (List.mem_cons_of_mem _ hz)).2.1)]
    unfold wordsL
    rw [List.nil_append, List.flatMap_cons, finish_nice (h w (List.mem_cons_self ..)), List.map_map]
    have aux : ∀ r : List Str, (∀ z ∈ r, NiceW z) → (r.map ((32 :: ·) ∘ cs)).flatMap finish = r := by
      intro r
      induction r with
      | nil => intro _; rfl
      | cons z r ih =>
        intro hz
        rw [List.map_cons, List.flatMap_cons, ih (fun x hx => hz x (List.mem_cons_of_mem _ hx))]
        show finish (32 :: cs z) ++ r = z :: r
        rw [finish_sp (hz z (List.mem_cons_self ..))]
        rfl
    rw [aux r (fun z hz => h z (List.mem_cons_of_mem _ hz))]
    rfl
theorem num_str {n : Int} (h0 : 0 ≤ n) (h1 : n ≤ 999999) : num (Str.ofString (toString n)) = some n := by
  obtain ⟨k, rfl⟩ := Int.eq_ofNat_of_zero_le h0
  have e := cs_num k
  have hl : (TL.numL k).length ≤ 6 := TL.numL_len (by decide) (by omega)
  have hne := TL.numL_ne k
  have hd : digB (Str.ofString (toString ((k : Nat) : Int))) = true := by
    unfold digB allIn
    rw [e]
    have c1 : decide (1 ≤ (TL.numL k).length) = true := decide_eq_true (by cases q : TL.numL k with
      | nil => exact absurd q hne
      | cons a l => simp)
    have c2 : ((TL.numL k).all fun c => decide (c ∈ cs DIGITS)) = true := by
      rw [List.all_eq_true]
      intro c hc
      have := TL.numL_digits k c hc
      rw [decide_eq_true_eq, digits_cs]
      simp only [List.mem_cons, List.not_mem_nil, or_false]
      omega
    rw [c1, decide_eq_true hl, c2]
    by_cases h0 : (TL.numL k).head? = some 48
    · have hk := numL_head h0
      subst hk
      decide +kernel
    · rw [decide_eq_false h0]
      rfl
  show (if digB _ = true then some ((digitsVal _ : Nat) : Int) else none) = _
  rw [if_pos hd, e, TL.numL_val]
/-! numbers of directives, apart -/
def val1 (nm : Str) (e : Str) : Option Int := match rdn e with
  | some p => if p.1 = nm then some p.2 else none
  | none => none
def vals (nm : Str) (ws : List Str) : List Int := ws.filterMap (val1 nm)
def upd1 (o : Option Int) (v : Int) : Option Int := match o with
  | none => some v
  | some u => if v < u then some v else some u
theorem look_put (ns : List (Str × Int)) (p : Str × Int) (nm : Str) : (putN ns p).lookup nm = if p.1 = nm then some p.2 else ns.lookup nm := by
  unfold putN
  obtain ⟨a, v⟩ := p
  dsimp only
  by_cases hm : a ∈ ns.map (·.1)
  · rw [if_pos hm]
    induction ns with
    | nil => cases hm
    | cons q r ih =>
      obtain ⟨b, u⟩ := q
      rw [List.map_cons]
      dsimp only
      by_cases hb : b = a
      · subst hb
        rw [if_pos rfl, List.lookup_cons, List.lookup_cons]
        by_cases hn : b = nm
        · subst hn
          simp
        · have hn2 : (nm == b) = false := by simpa using fun z => hn z.symm
          rw [if_neg hn, hn2]
          dsimp only
          by_cases hr : b ∈ r.map (·.1)
          · have := ih hr
            rw [if_neg hn] at this
            exact this
          · have e : (r.map fun q => if q.1 = b then (b, v) else q) = r := by
              have : ∀ q ∈ r, (if q.1 = b then (b, v) else q) = q := fun q hq => if_neg (fun z => hr (List.mem_map.mpr ⟨q, hq, z⟩))
              exact (List.map_congr_left this).trans (List.map_id _)
            rw [e]
      · rw [if_neg hb, List.lookup_cons, List.lookup_cons]
        have hr : a ∈ r.map (·.1) := by
          rcases List.mem_cons.mp hm with h | h
          · exact absurd h.symm hb
          · exact h
        cases h2 : (nm == b) with
        | true =>
          have : nm = b := eq_of_beq h2
          dsimp only
          rw [if_neg (fun z => hb (by rw [z, this]))]
        | false => exact ih hr
  · rw [if_neg hm]
    induction ns with
    | nil =>
      show List.lookup nm [(a, v)] = _
      rw [List.lookup_cons]
      by_cases hn : a = nm
      · rw [hn]; simp
      · have hn2 : (nm == a) = false := by simpa using fun z => hn z.symm
        simp [hn2, hn]
    | cons q r ih =>
      obtain ⟨b, u⟩ := q
      rw [List.cons_append, List.lookup_cons, List.lookup_cons]
      cases h2 : (nm == b) with
      | true =>
        have : nm = b := eq_of_beq h2
        dsimp only
        rw [if_neg (fun z => hm (by rw [z, this]; exact List.mem_cons_self ..))]
      | false => exact ih (fun z => hm (List.mem_cons_of_mem _ z))
theorem look_add (ns : List (Str × Int)) (e nm : Str) : (addN ns (rdn e)).lookup nm = match val1 nm e with
  | some v => upd1 (ns.lookup nm) v
  | none => ns.lookup nm := by
  unfold val1 addN
  cases rdn e with
  | none => rfl
  | some p =>
    dsimp only
    cases hl : ns.lookup p.1 with
    | none =>
      have e2 : ns ++ [p] = putN ns p := by
        unfold putN
        rw [if_neg]
        rw [mem_look, hl]
        decide
      dsimp only
      rw [e2, look_put]
      by_cases h : p.1 = nm
      · rw [if_pos h, if_pos h, ← h, hl]
        rfl
      · rw [if_neg h, if_neg h]
    | some u =>
      dsimp only
      by_cases h : p.1 = nm
      · rw [if_pos h]
        show _ = upd1 (ns.lookup nm) p.2
        rw [← h, hl]
        unfold upd1
        dsimp only
        by_cases h2 : p.2 < u
        · rw [if_pos h2, if_pos h2, look_put, if_pos rfl]
        · rw [if_neg h2, if_neg h2, hl]
      · rw [if_neg h]
        dsimp only
        by_cases h2 : p.2 < u
        · rw [if_pos h2, look_put, if_neg h]
        · rw [if_neg h2]
theorem look_fold (nm : Str) (ws : List Str) (ns : List (Str × Int)) : (ws.foldl (fun ns e => addN ns (rdn e)) ns).lookup nm = (vals nm ws).foldl upd1 (ns.lookup nm) := by
  induction ws generalizing ns with
  | nil => rfl
  | cons e r ih =>
    rw [List.foldl_cons, ih, look_add]
    unfold vals
    rw [List.filterMap_cons]
    cases val1 nm e <;> rfl
theorem lk_nums (nm : Str) (ws : List Str) : lk (nums ws) nm = (vals nm ws).foldl upd1 none := look_fold nm ws []
theorem vals_app (nm : Str) (a b : List Str) : vals nm (a ++ b) = vals nm a ++ vals nm b := List.filterMap_append
/-- at most one number: the turn does not matter -/
theorem lk_turn {nm : Str} {ws : List Str} {o : Option Int} (k : Nat) (h : vals nm ws = o.toList) : lk (nums (ws.drop k ++ ws.take k)) nm = o := by
  rw [lk_nums, vals_app]
  have e : vals nm (ws.take k) ++ vals nm (ws.drop k) = o.toList := by rw [← vals_app, List.take_append_drop]; exact h
  cases o with
  | none =>
    obtain ⟨h1, h2⟩ := List.append_eq_nil_iff.mp e
    rw [h1, h2]
    rfl
  | some v =>
    rcases List.append_eq_singleton_iff.mp e with ⟨h1, h2⟩ | ⟨h1, h2⟩ <;> rw [h1, h2] <;> rfl
theorem vals_none {nm : Str} {ws : List Str} (h : ∀ w ∈ ws, val1 nm w = none) : vals nm ws = [] := List.filterMap_eq_nil_iff.mpr h
theorem eq_cs : cs (Str.ofString "=") = [61] := by decide +kernel
theorem rdn_eq {nm : Str} {n : Int} (h1 : nm ∈ NUMN) (h2 : 61 ∉ cs nm) (h3 : 0 ≤ n) (h4 : n ≤ 999999) : rdn (nm ++ Str.ofString "=" ++ Str.ofString (toString n)) = some (nm, n) := by
  unfold rdn
  rw [show Str.ofString "=" = (⟨#[61]⟩ : Str) from rfl, part_yes h2]
  unfold rdnP
  rw [if_pos h1]
  dsimp only
  rw [num_str h3 h4]
theorem nice_eq {nm : Str} {n : Int} (h1 : NiceW nm) (h3 : 0 ≤ n) (h4 : n ≤ 999999) : NiceW (nm ++ Str.ofString "=" ++ Str.ofString (toString n)) := by
  obtain ⟨k, rfl⟩ := Int.eq_ofNat_of_zero_le h3
  have e := cs_num k
  have hne := TL.numL_ne k
  obtain ⟨a1, a2, a3, a4⟩ := h1
  have e0 : cs (nm ++ Str.ofString "=" ++ Str.ofString (toString ((k : Nat) : Int))) = cs nm ++ (61 :: TL.numL k) := by rw [cs_app, cs_app, e, eq_cs, List.append_assoc]; rfl
  unfold NiceW
  rw [e0]
  refine ⟨by simp, ?_, ?_, ?_⟩
  · intro hm
    rcases List.mem_append.mp hm with hm | hm
    · exact a2 hm
    · rcases List.mem_cons.mp hm with hm | hm
      · cases hm
      · exact TL.numL_free (by decide) hm
  · cases hc : cs nm with
    | nil => exact absurd hc a1
    | cons c r => rw [hc] at a3; simpa using a3
  · intro q
    have hm := List.mem_of_getLast? q
    rw [List.getLast?_append] at q
    cases hl : (61 :: TL.numL k).getLast? with
    | none => rw [List.getLast?_eq_none_iff] at hl; cases hl
    | some c =>
      rw [hl] at q
      have q2 : c = 32 := Option.some.inj q
      subst q2
      rcases List.mem_cons.mp (List.mem_of_getLast? hl) with z | z
      · cases z
      · exact TL.numL_free (by decide) z
theorem str_len {n : Int} (h3 : 0 ≤ n) (h4 : n ≤ 999999) : (Str.ofString (toString n)).length ≤ 6 := by
  obtain ⟨k, rfl⟩ := Int.eq_ofNat_of_zero_le h3
  rw [len_cs, cs_num]
  exact TL.numL_len (by decide) (by omega)

def keepM (r : MakeR) (w d : DirR) : Bool := !(w.never || d.never || (d.own && r.shared))
theorem mk_makeD0 {K : PySem.W.Frag} {M M3 N : Ms} {P : Ent → Ms → Prop} {r : MakeR} (h1 : M3[M.length]? = some (some (.ins (He.ga K "Make") (makeF r)))) (h3 : flatMs (M3.take M.length) = true) (h4 : M3.take M.length = N) (p : P (.d (makeD K 0 r)) N) : MkEnd M (He.ga K "Make") P (.d .none) M3 := mk_d (gs := makeG r) h1 h3 h4 p
theorem mk_makeD1 {K : PySem.W.Frag} {M M3 N : Ms} {P : Ent → Ms → Prop} {r : MakeR} (h1 : M3[M.length]? = some (some (.ins (He.ga K "StrictMake") (makeF r)))) (h3 : flatMs (M3.take M.length) = true) (h4 : M3.take M.length = N) (p : P (.d (makeD K 1 r)) N) : MkEnd M (He.ga K "StrictMake") P (.d .none) M3 := mk_d (gs := makeG r) h1 h3 h4 p
theorem mk_makeD2 {K : PySem.W.Frag} {M M3 N : Ms} {P : Ent → Ms → Prop} {r : MakeR} (h1 : M3[M.length]? = some (some (.ins (He.ga K "OwnMake") (makeF r)))) (h3 : flatMs (M3.take M.length) = true) (h4 : M3.take M.length = N) (p : P (.d (makeD K 2 r)) N) : MkEnd M (He.ga K "OwnMake") P (.d .none) M3 := mk_d (gs := makeG r) h1 h3 h4 p
/-- a method that every make has alike -/
theorem me_makeD {K : PySem.W.Frag} {J : Jx} {Γ : Ga} {M : Ms} {P : Ent → Ms → Prop} {t tk : TA} {n m : Nat} {X : Xa} {c : ASp} {cvs : List V} {ces : List Z.Ent} {ix : List Nat} {w : Nat} {r : MakeR} {mn : Str} (hl : (makeF r).lookup mn = none)
    (h : WA J t Γ M fun es M2 => WA J tk Γ M2 fun zs M3 => es.length = n ∧ zs.length = m ∧ Z.Fr c (perm ix ((.d (makeD K w r) :: es) ++ (ces ++ zs))) M3 P X) (hu : True) :
    ∃ C' fs', OV M (.d (makeD K w r)) C' fs' ∧ fs'.lookup mn = none ∧ ∃ y ∈ [(⟨He.ga K "Make", c, cvs, ces, ix⟩ : MA), ⟨He.ga K "StrictMake", c, cvs, ces, ix⟩, ⟨He.ga K "OwnMake", c, cvs, ces, ix⟩], y.C = C' ∧ WA J t Γ M fun es M2 => WA J tk Γ M2 fun zs M3 => es.length = n ∧ zs.length = m ∧ Z.Fr y.c (perm y.ix ((.d (makeD K w r) :: es) ++ (y.ces ++ zs))) M3 P X := by
  refine ⟨_, _, OV.d rfl, hl, ?_⟩
  match w with
  | 0 => exact ⟨_, List.mem_cons_self .., rfl, h⟩
  | 1 => exact ⟨_, List.mem_cons_of_mem _ (List.mem_cons_self ..), rfl, h⟩
  | _ + 2 => exact ⟨_, List.mem_cons_of_mem _ (List.mem_cons_of_mem _ (List.mem_cons_self ..)), rfl, h⟩

def allowM (r : MakeR) (w d : DirR) : Option Int := if d.strict = true then some 0 else match r.grace with
  | none => none
  | some g => if w.anylate = true then none else some (maxI [g, d.late.getD 0, w.late.getD 0])
def eallowM (r : MakeR) (w d : DirR) : Option Int := if d.strict = true then some 0 else match allowM r w d with
  | none => none
  | some e => some (maxI [e, r.egrace, d.onerr.getD 0])
def allowC (c : Nat) (r : MakeR) (w d : DirR) : Option Int := if c = 1 then some 0 else allowM r w d
def eallowC (c : Nat) (r : MakeR) (w d : DirR) : Option Int := if c = 1 then some 0 else eallowM r w d
theorem allowC_1 {c : Nat} {r : MakeR} {w d : DirR} (h : c = 1) : allowC c r w d = some 0 := if_pos h
theorem allowC_0 {c : Nat} {r : MakeR} {w d : DirR} (h : c ≠ 1) : allowC c r w d = allowM r w d := if_neg h
theorem eallowC_1 {c : Nat} {r : MakeR} {w d : DirR} (h : c = 1) : eallowC c r w d = some 0 := if_pos h
theorem eallowC_0 {c : Nat} {r : MakeR} {w d : DirR} (h : c ≠ 1) : eallowC c r w d = eallowM r w d := if_neg h
/-- a method that the strict make has of its own -/
theorem me_makeS {K : PySem.W.Frag} {J : Jx} {Γ : Ga} {M : Ms} {P : Ent → Ms → Prop} {t tk : TA} {n m : Nat} {X : Xa} {c c1 : ASp} {cvs cvs1 : List V} {ces ces1 : List Z.Ent} {ix ix1 : List Nat} {w : Nat} {r : MakeR} {mn : Str} (hl : (makeF r).lookup mn = none)
    (h0 : w ≠ 1 → WA J t Γ M fun es M2 => WA J tk Γ M2 fun zs M3 => es.length = n ∧ zs.length = m ∧ Z.Fr c (perm ix ((.d (makeD K w r) :: es) ++ (ces ++ zs))) M3 P X)
    (h1 : w = 1 → WA J t Γ M fun es M2 => WA J tk Γ M2 fun zs M3 => es.length = n ∧ zs.length = m ∧ Z.Fr c1 (perm ix1 ((.d (makeD K w r) :: es) ++ (ces1 ++ zs))) M3 P X) :
    ∃ C' fs', OV M (.d (makeD K w r)) C' fs' ∧ fs'.lookup mn = none ∧ ∃ y ∈ [(⟨He.ga K "Make", c, cvs, ces, ix⟩ : MA), ⟨He.ga K "StrictMake", c1, cvs1, ces1, ix1⟩, ⟨He.ga K "OwnMake", c, cvs, ces, ix⟩], y.C = C' ∧ WA J t Γ M fun es M2 => WA J tk Γ M2 fun zs M3 => es.length = n ∧ zs.length = m ∧ Z.Fr y.c (perm y.ix ((.d (makeD K w r) :: es) ++ (y.ces ++ zs))) M3 P X := by
  refine ⟨_, _, OV.d rfl, hl, ?_⟩
  match w with
  | 0 => exact ⟨_, List.mem_cons_self .., rfl, h0 (by decide)⟩
  | 1 => exact ⟨_, List.mem_cons_of_mem _ (List.mem_cons_self ..), rfl, h1 rfl⟩
  | _ + 2 => exact ⟨_, List.mem_cons_of_mem _ (List.mem_cons_of_mem _ (List.mem_cons_self ..)), rfl, h0 (by omega)⟩

structure KindR where
  lasts : Option Int
  shared : Option Int
  late : Int
  onerr : Int
  strict : Bool
  check : Bool
  own : Bool
  never : Bool
  mark : Str
  dated : Bool
  margin : Int
def kindF (r : KindR) : List (Str × Z.Ent) := [("lasts", .d (oi r.lasts)), ("shared_lasts", .d (oi r.shared)), ("late", .d (.int r.late)), ("on_error", .d (.int r.onerr)), ("strict", .d (.bool r.strict)), ("check", .d (.bool r.check)), ("own", .d (.bool r.own)), ("never", .d (.bool r.never)), ("mark", .d (.str r.mark)), ("dated", .d (.bool r.dated)), ("margin", .d (.int r.margin))]
def kindG (r : KindR) : List (Str × PyData) := [("lasts", oi r.lasts), ("shared_lasts", oi r.shared), ("late", .int r.late), ("on_error", .int r.onerr), ("strict", .bool r.strict), ("check", .bool r.check), ("own", .bool r.own), ("never", .bool r.never), ("mark", .str r.mark), ("dated", .bool r.dated), ("margin", .int r.margin)]
def kindD (K : PySem.W.Frag) (r : KindR) : PyData := Z.ob (He.ga K "Kind") (kindG r)
theorem mk_kindD {K : PySem.W.Frag} {M M3 N : Ms} {P : Ent → Ms → Prop} {r : KindR} (h1 : M3[M.length]? = some (some (.ins (He.ga K "Kind") (kindF r)))) (h3 : flatMs (M3.take M.length) = true) (h4 : M3.take M.length = N) (p : P (.d (kindD K r)) N) : MkEnd M (He.ga K "Kind") P (.d .none) M3 := mk_d (gs := kindG r) h1 h3 h4 p
theorem fl_kindD {K : PySem.W.Frag} {M : Ms} {r : KindR} {f : Str} {e : Z.Ent} {R : Z.Ent → Prop} (hl : (kindF r).lookup f = some e) (p : R e) : ∃ C fs e, OV M (.d (kindD K r)) C fs ∧ C ∈ [He.ga K "Kind"] ∧ fs.lookup f = some e ∧ R e := ⟨_, _, e, OV.d rfl, List.mem_cons_self .., hl, p⟩
theorem me_kindD {K : PySem.W.Frag} {J : Jx} {Γ : Ga} {M : Ms} {P : Ent → Ms → Prop} {t tk : TA} {n m : Nat} {X : Xa} {c : ASp} {cvs : List V} {ces : List Z.Ent} {ix : List Nat} {r : KindR} {mn : Str} (hl : (kindF r).lookup mn = none)
    (h : WA J t Γ M fun es M2 => WA J tk Γ M2 fun zs M3 => es.length = n ∧ zs.length = m ∧ Z.Fr c (perm ix ((.d (kindD K r) :: es) ++ (ces ++ zs))) M3 P X) :
    ∃ C' fs', OV M (.d (kindD K r)) C' fs' ∧ fs'.lookup mn = none ∧ ∃ y ∈ [(⟨He.ga K "Kind", c, cvs, ces, ix⟩ : MA)], y.C = C' ∧ WA J t Γ M fun es M2 => WA J tk Γ M2 fun zs M3 => es.length = n ∧ zs.length = m ∧ Z.Fr y.c (perm y.ix ((.d (kindD K r) :: es) ++ (y.ces ++ zs))) M3 P X :=
  ⟨_, _, OV.d rfl, hl, _, List.mem_cons_self .., rfl, h⟩
abbrev IVn (K : PySem.W.Frag) : Value := .ref (He.ga K "InvalidValue")
abbrev valsD (r : KindR) : List PyData := [oi r.lasts, oi r.shared, .int r.late, .int r.onerr, .bool r.strict, .bool r.check, .bool r.own, .bool r.never, .str r.mark, .bool r.dated, .int r.margin]
abbrev MARKS : List Str := ["strong", "weak", "none"]
def inR (v : Int) : Bool := decide (0 ≤ v) && decide (v ≤ 999999)
def inRo : Option Int → Bool
  | none => true
  | some v => inR v
def bad1 (r : KindR) : Str := if inRo r.lasts = false then "lasts" else if inRo r.shared = false then "shared_lasts" else if inR r.late = false then "late" else if inR r.onerr = false then "on_error" else if r.mark ∉ MARKS then "mark" else if inR r.margin = false then "margin" else ""
def RGood (r : KindR) : Prop := inRo r.lasts = true ∧ inRo r.shared = true ∧ inR r.late = true ∧ inR r.onerr = true ∧ r.mark ∈ MARKS ∧ inR r.margin = true
theorem bad1_good {r : KindR} (h : RGood r) : bad1 r = "" := by
  obtain ⟨h1, h2, h3, h4, h5, h6⟩ := h
  unfold bad1
  rw [h1, h2, h3, h4, h6]
  simp [h5]
theorem bad1_at {r : KindR} {n : Str} {Φ : Str → Prop} (e : bad1 r = n) (hn : n ≠ "") (k2 : bad1 r ≠ "" → Φ (bad1 r)) : Φ n := by
  subst e
  exact k2 hn
theorem inR_iff {v : Int} : inR v = true ↔ 0 ≤ v ∧ v ≤ 999999 := by
  unfold inR
  simp
theorem inR_no {v : Int} : inR v = false ↔ v < 0 ∨ 999999 < v := by
  unfold inR
  simp
  omega
def RNice (r : KindR) : Prop := (∀ v, r.lasts = some v → v.natAbs ≤ 3000000) ∧ (∀ v, r.shared = some v → v.natAbs ≤ 3000000) ∧ r.late.natAbs ≤ 3000000 ∧ r.onerr.natAbs ≤ 3000000 ∧ r.mark.length ≤ 30 ∧ r.margin.natAbs ≤ 3000000
abbrev IniPost (K : PySem.W.Frag) (r : KindR) (Q : Ent → Ms → Prop) (X : Xa) : Prop := (bad1 r = "" → Q (.d .none) [some (.ins (He.ga K "Kind") (kindF r))]) ∧ (bad1 r ≠ "" → X (IVn K) [("name", .d (.str (bad1 r)))] [some (.ins (He.ga K "Kind") [])])

/-! the field -/
def numP (nm : Str) (v : Int) : Str := nm ++ Str.ofString "=" ++ Str.ofString (toString v)
def optP (nm : Str) : Option Int → List Str
  | none => []
  | some v => [numP nm v]
def posP (nm : Str) (v : Int) : List Str := if 0 < v then [numP nm v] else []
def flgP (nm : Str) (b : Bool) : List Str := if b = true then [nm] else []
def F4 (r : KindR) : List Str := flgP "strict" r.strict ++ (flgP "check" r.check ++ (flgP "own" r.own ++ flgP "never" r.never))
def N4 (r : KindR) : List Str := optP "lasts" r.lasts ++ (optP "shared-lasts" r.shared ++ (posP "late" r.late ++ posP "on-error" r.onerr))
def parts (r : KindR) : List Str := N4 r ++ F4 r
def nz (v : Int) : Option Int := if v = 0 then none else some v
def dirK (r : KindR) : DirR := ⟨r.lasts, r.shared, nz r.late, nz r.onerr, none, none, r.strict, r.check, r.own, r.never, false, false⟩
theorem val_num {nm nm' : Str} {v : Int} (h1 : nm' ∈ NUMN) (h2 : 61 ∉ cs nm') (h3 : 0 ≤ v) (h4 : v ≤ 999999) : val1 nm (numP nm' v) = if nm' = nm then some v else none := by
  unfold val1 numP
  rw [rdn_eq h1 h2 h3 h4]
theorem vals_opt {nm nm' : Str} {o : Option Int} (h1 : nm' ∈ NUMN) (h2 : 61 ∉ cs nm') (h : inRo o = true) : vals nm (optP nm' o) = if nm' = nm then o.toList else [] := by
  cases o with
  | none => split <;> rfl
  | some v =>
    obtain ⟨h3, h4⟩ := inR_iff.mp (show inR v = true from h)
    unfold optP vals
    rw [List.filterMap_cons, val_num h1 h2 h3 h4]
    by_cases e : nm' = nm
    · rw [if_pos e, if_pos e]; rfl
    · rw [if_neg e, if_neg e]; rfl
theorem nz_pos {v : Int} (h : 0 ≤ v) : nz v = if 0 < v then some v else none := by
  unfold nz
  split
  · rw [if_neg (by omega)]
  · rw [if_pos (by omega)]
theorem vals_pos {nm nm' : Str} {v : Int} (h1 : nm' ∈ NUMN) (h2 : 61 ∉ cs nm') (h : inR v = true) : vals nm (posP nm' v) = if nm' = nm then (nz v).toList else [] := by
  obtain ⟨h3, h4⟩ := inR_iff.mp h
  rw [nz_pos h3]
  unfold posP
  split
  · unfold vals
    rw [List.filterMap_cons, val_num h1 h2 h3 h4]
    by_cases e : nm' = nm
    · rw [if_pos e, if_pos e]; rfl
    · rw [if_neg e, if_neg e]; rfl
  · split <;> rfl
theorem vals_flg {nm w : Str} {b : Bool} (h : val1 nm w = none) : vals nm (flgP w b) = [] := by
  unfold flgP
  split
  · unfold vals
    rw [List.filterMap_cons, h]
    rfl
  · rfl
theorem vals_F4 {r : KindR} {nm : Str} (h1 : val1 nm "strict" = none) (h2 : val1 nm "check" = none) (h3 : val1 nm "own" = none) (h4 : val1 nm "never" = none) : vals nm (F4 r) = [] := by
  unfold F4
  rw [vals_app, vals_app, vals_app, vals_flg h1, vals_flg h2, vals_flg h3, vals_flg h4]
  rfl
theorem vals_parts {r : KindR} (h : RGood r) (nm : Str) (h1 : val1 nm "strict" = none) (h2 : val1 nm "check" = none) (h3 : val1 nm "own" = none) (h4 : val1 nm "never" = none) :
    vals nm (parts r) = (if ("lasts" : Str) = nm then r.lasts.toList else []) ++ ((if ("shared-lasts" : Str) = nm then r.shared.toList else []) ++ ((if ("late" : Str) = nm then (nz r.late).toList else []) ++ (if ("on-error" : Str) = nm then (nz r.onerr).toList else []))) := by
  obtain ⟨g1, g2, g3, g4, g5, g6⟩ := h
  unfold parts N4
  rw [vals_app, vals_app, vals_app, vals_app, vals_F4 h1 h2 h3 h4, List.append_nil, vals_opt (by decide +kernel) (by decide +kernel) g1, vals_opt (by decide +kernel) (by decide +kernel) g2, vals_pos (by decide +kernel) (by decide +kernel) g3, vals_pos (by decide +kernel) (by decide +kernel) g4]
theorem fold1 (o : Option Int) : o.toList.foldl upd1 none = o := by cases o <;> rfl
theorem num_mem {nm : Str} {v : Int} : 61 ∈ cs (numP nm v) := by
  unfold numP
  rw [cs_app, cs_app, eq_cs]
  simp
theorem mem_N4 {r : KindR} {w : Str} (h : w ∈ N4 r) : ∃ nm v, w = numP nm v ∧ nm ∈ NUMN ∧ (RGood r → 0 ≤ v ∧ v ≤ 999999) := by
  unfold N4 at h
  simp only [List.mem_append] at h
  rcases h with h | h | h | h
  · cases e : r.lasts with
    | none => rw [e] at h; cases h
    | some v =>
      rw [e] at h
      exact ⟨_, v, List.mem_singleton.mp h, by decide +kernel, fun g => by have g1 := g.1; rw [e] at g1; exact inR_iff.mp g1⟩
  · cases e : r.shared with
    | none => rw [e] at h; cases h
    | some v =>
      rw [e] at h
      exact ⟨_, v, List.mem_singleton.mp h, by decide +kernel, fun g => by have g1 := g.2.1; rw [e] at g1; exact inR_iff.mp g1⟩
  · unfold posP at h
    split at h
    · exact ⟨_, _, List.mem_singleton.mp h, by decide +kernel, fun g => inR_iff.mp g.2.2.1⟩
    · cases h
  · unfold posP at h
    split at h
    · exact ⟨_, _, List.mem_singleton.mp h, by decide +kernel, fun g => inR_iff.mp g.2.2.2.1⟩
    · cases h
theorem mem_F4 {r : KindR} {w : Str} (h : w ∈ F4 r) : w ∈ (["strict", "check", "own", "never"] : List Str) := by
  unfold F4 flgP at h
  simp only [List.mem_append] at h
  rcases h with h | h | h | h <;> (split at h <;> first | (cases h; done) | (rw [List.mem_singleton.mp h]; decide +kernel))
theorem flg_mem {w nm : Str} {b : Bool} : (w ∈ flgP nm b) ↔ (w = nm ∧ b = true) := by
  unfold flgP
  split
  · rename_i hb
    rw [List.mem_singleton]
    exact ⟨fun h => ⟨h, hb⟩, fun h => h.1⟩
  · rename_i hb
    exact ⟨fun h => (nomatch h), fun h => absurd h.2 hb⟩
theorem not_N4 {r : KindR} {w : Str} (h : 61 ∉ cs w) : w ∉ N4 r := fun q => by
  obtain ⟨nm, v, rfl, _⟩ := mem_N4 q
  exact h num_mem
theorem mem_parts {r : KindR} {w : Str} (h : 61 ∉ cs w) : (w ∈ parts r) ↔ ((w = "strict" ∧ r.strict = true) ∨ (w = "check" ∧ r.check = true) ∨ (w = "own" ∧ r.own = true) ∨ (w = "never" ∧ r.never = true)) := by
  unfold parts F4
  simp only [List.mem_append, flg_mem, not_N4 h, false_or]
theorem dirs_parts {r : KindR} (h : RGood r) : dirs (parts r) = dirK r := by
  unfold dirs dirK
  simp only [lk_nums]
  rw [vals_parts h "lasts" (by decide +kernel) (by decide +kernel) (by decide +kernel) (by decide +kernel), vals_parts h "shared-lasts" (by decide +kernel) (by decide +kernel) (by decide +kernel) (by decide +kernel), vals_parts h "late" (by decide +kernel) (by decide +kernel) (by decide +kernel) (by decide +kernel), vals_parts h "on-error" (by decide +kernel) (by decide +kernel) (by decide +kernel) (by decide +kernel), vals_parts h "age" (by decide +kernel) (by decide +kernel) (by decide +kernel) (by decide +kernel), vals_parts h "fresh" (by decide +kernel) (by decide +kernel) (by decide +kernel) (by decide +kernel)]
  have d1 : ∀ a b : Str, a ≠ b → ∀ x : List Int, (if a = b then x else []) = [] := fun a b h x => if_neg h
  have e (a : Str) (x : List Int) : (if a = a then x else []) = x := if_pos rfl
  simp only [e]
  rw [d1 "shared-lasts" "lasts" (by decide +kernel), d1 "late" "lasts" (by decide +kernel), d1 "on-error" "lasts" (by decide +kernel), d1 "lasts" "shared-lasts" (by decide +kernel), d1 "late" "shared-lasts" (by decide +kernel), d1 "on-error" "shared-lasts" (by decide +kernel), d1 "lasts" "late" (by decide +kernel), d1 "shared-lasts" "late" (by decide +kernel), d1 "on-error" "late" (by decide +kernel),
    d1 "lasts" "on-error" (by decide +kernel), d1 "shared-lasts" "on-error" (by decide +kernel), d1 "late" "on-error" (by decide +kernel), d1 "lasts" "age" (by decide +kernel), d1 "shared-lasts" "age" (by decide +kernel), d1 "late" "age" (by decide +kernel), d1 "on-error" "age" (by decide +kernel), d1 "lasts" "fresh" (by decide +kernel), d1 "shared-lasts" "fresh" (by decide +kernel), d1 "late" "fresh" (by decide +kernel), d1 "on-error" "fresh" (by decide +kernel)]
  simp only [List.append_nil, List.nil_append, if_true, fold1]
  have m1 : decide (("strict" : Str) ∈ parts r) = r.strict := by rw [Bool.eq_iff_iff, decide_eq_true_eq, mem_parts (by decide +kernel)]; simp [show ("strict" : Str) ≠ "check" by decide +kernel, show ("strict" : Str) ≠ "own" by decide +kernel, show ("strict" : Str) ≠ "never" by decide +kernel]
  have m2 : decide (("check" : Str) ∈ parts r) = r.check := by rw [Bool.eq_iff_iff, decide_eq_true_eq, mem_parts (by decide +kernel)]; simp [show ("check" : Str) ≠ "strict" by decide +kernel, show ("check" : Str) ≠ "own" by decide +kernel, show ("check" : Str) ≠ "never" by decide +kernel]
  have m3 : decide (("own" : Str) ∈ parts r) = r.own := by rw [Bool.eq_iff_iff, decide_eq_true_eq, mem_parts (by decide +kernel)]; simp [show ("own" : Str) ≠ "strict" by decide +kernel, show ("own" : Str) ≠ "check" by decide +kernel, show ("own" : Str) ≠ "never" by decide +kernel]
  have m4 : decide (("never" : Str) ∈ parts r) = r.never := by rw [Bool.eq_iff_iff, decide_eq_true_eq, mem_parts (by decide +kernel)]; simp [show ("never" : Str) ≠ "strict" by decide +kernel, show ("never" : Str) ≠ "check" by decide +kernel, show ("never" : Str) ≠ "own" by decide +kernel]
  have m5 : decide (("kept" : Str) ∈ parts r) = false := by rw [decide_eq_false_iff_not, mem_parts (by decide +kernel)]; simp [show ("kept" : Str) ≠ "strict" by decide +kernel, show ("kept" : Str) ≠ "check" by decide +kernel, show ("kept" : Str) ≠ "own" by decide +kernel, show ("kept" : Str) ≠ "never" by decide +kernel]
  have m6 : decide (("late" : Str) ∈ parts r) = false := by rw [decide_eq_false_iff_not, mem_parts (by decide +kernel)]; simp [show ("late" : Str) ≠ "strict" by decide +kernel, show ("late" : Str) ≠ "check" by decide +kernel, show ("late" : Str) ≠ "own" by decide +kernel, show ("late" : Str) ≠ "never" by decide +kernel]
  rw [m1, m2, m3, m4, m5, m6]
  rfl
theorem parts_nice {r : KindR} (h : RGood r) : ∀ w ∈ parts r, NiceW w ∧ w.length ≤ 20 := by
  intro w hw
  unfold parts at hw
  rcases List.mem_append.mp hw with hw | hw
  · obtain ⟨nm, v, rfl, hn, hv⟩ := mem_N4 hw
    obtain ⟨h0, h1⟩ := hv h
    have hnn : ∀ x ∈ NUMN, NiceW x ∧ x.length ≤ 12 := by decide +kernel
    refine ⟨nice_eq (hnn nm hn).1 h0 h1, ?_⟩
    have a1 := (hnn nm hn).2
    have a2 := str_len h0 h1
    have a3 : (Str.ofString "=").length = 1 := by decide +kernel
    unfold numP
    rw [len_app, len_app, a3]
    omega
  · have hff : ∀ x ∈ (["strict", "check", "own", "never"] : List Str), NiceW x ∧ x.length ≤ 20 := by decide +kernel
    exact hff w (mem_F4 hw)
def keepS (r : KindR) : Str := Txt.join ", " (parts r)
theorem dirs_keep {r : KindR} (h : RGood r) : dirs (wordsS (keepS r)) = dirK r := by
  unfold keepS
  rw [words_join fun w hw => (parts_nice h w hw).1, dirs_parts h]

theorem mul01 {v d : Int} (h0 : 0 ≤ v) (h1 : v ≤ 999999) : inR (v * (d % 2)) = true := by
  rw [inR_iff]
  rcases Int.emod_two_eq d with e | e <;> rw [e] <;> omega
theorem inR_of {v : Int} (h0 : 0 ≤ v) (h1 : v ≤ 999999) : inR v = true := inR_iff.mpr ⟨h0, h1⟩

def NiceR (r : KindR) : Prop := RGood r
theorem opt_io {o : Option Int} (h : inRo o = true) : ∀ v, o = some v → 0 ≤ v ∧ v ≤ 999999 := fun v e => by
  rw [e] at h
  exact inR_iff.mp h
theorem num_len {v : Int} {p : Str} (hp : p.length ≤ 20) (h0 : 0 ≤ v) (h1 : v ≤ 999999) : p.length + (Str.ofString (toString v)).length ≤ sizeLine := by
  have := str_len h0 h1
  rw [sizeLine]
  omega
theorem sum_le' (n : Nat) : ∀ xs : List Str, (∀ x ∈ xs, x.length ≤ n) → (xs.map (·.length)).sum ≤ n * xs.length
  | [], _ => Nat.le_refl _
  | x :: xs, h => by
    have h1 := h x (List.mem_cons_self ..)
    have h2 := sum_le' n xs fun z hz => h z (List.mem_cons_of_mem _ hz)
    rw [List.map_cons, List.sum_cons, List.length_cons, Nat.mul_succ]
    omega
theorem flg_len {nm : Str} {b : Bool} : (flgP nm b).length ≤ 1 := by unfold flgP; split <;> simp
theorem pos_len {nm : Str} {v : Int} : (posP nm v).length ≤ 1 := by unfold posP; split <;> simp
theorem opt_len {nm : Str} {o : Option Int} : (optP nm o).length ≤ 1 := by cases o <;> simp [optP]
theorem parts_len (r : KindR) : (parts r).length ≤ 8 := by
  unfold parts N4 F4
  simp only [List.length_append]
  have a1 := @opt_len "lasts" r.lasts
  have a2 := @opt_len "shared-lasts" r.shared
  have a3 := @pos_len "late" r.late
  have a4 := @pos_len "on-error" r.onerr
  have b1 := @flg_len "strict" r.strict
  have b2 := @flg_len "check" r.check
  have b3 := @flg_len "own" r.own
  have b4 := @flg_len "never" r.never
  omega
theorem parts_sum {r : KindR} (h : RGood r) : ((parts r).map (·.length)).sum + (parts r).length * 2 ≤ 16777216 := by
  have h1 := sum_le' 20 (parts r) fun x hx => (parts_nice h x hx).2
  have h2 := parts_len r
  omega
/-- the first n of the eight parts -/
def upto (r : KindR) : Nat → List Str
  | 0 => []
  | 1 => optP "lasts" r.lasts
  | 2 => optP "lasts" r.lasts ++ optP "shared-lasts" r.shared
  | 3 => optP "lasts" r.lasts ++ (optP "shared-lasts" r.shared ++ posP "late" r.late)
  | 4 => N4 r
  | 5 => N4 r ++ flgP "strict" r.strict
  | 6 => N4 r ++ (flgP "strict" r.strict ++ flgP "check" r.check)
  | 7 => N4 r ++ (flgP "strict" r.strict ++ (flgP "check" r.check ++ flgP "own" r.own))
  | _ => parts r
def addP (r : KindR) : Nat → List Str
  | 0 => optP "lasts" r.lasts
  | 1 => optP "shared-lasts" r.shared
  | 2 => posP "late" r.late
  | 3 => posP "on-error" r.onerr
  | 4 => flgP "strict" r.strict
  | 5 => flgP "check" r.check
  | 6 => flgP "own" r.own
  | 7 => flgP "never" r.never
  | _ => []
theorem upto_succ (r : KindR) : ∀ n, n < 8 → upto r (n + 1) = upto r n ++ addP r n
  | 0, _ => rfl
  | 1, _ => rfl
  | 2, _ => by simp [upto, addP]
  | 3, _ => by simp [upto, addP, N4]
  | 4, _ => rfl
  | 5, _ => by simp [upto, addP]
  | 6, _ => by simp [upto, addP]
  | 7, _ => by simp [upto, addP, parts, F4]
theorem upto_len (r : KindR) : ∀ n, n ≤ 8 → (upto r n).length ≤ n
  | 0, _ => Nat.le_refl _
  | n + 1, h => by
    have h1 := upto_len r n (by omega)
    rw [upto_succ r n (by omega), List.length_append]
    have h2 : (addP r n).length ≤ 1 := by
      match n with
      | 0 => exact opt_len
      | 1 => exact opt_len
      | 2 => exact pos_len
      | 3 => exact pos_len
      | 4 => exact flg_len
      | 5 => exact flg_len
      | 6 => exact flg_len
      | 7 => exact flg_len
      | _ + 8 => exact Nat.zero_le _
    omega

theorem log_num {v : Int} (h0 : 0 ≤ v) (h1 : v ≤ 999999) : v.natAbs.log2 < 1920 := log_small (k := 1000000) (by omega) (by decide +kernel)
theorem up_yes {r : KindR} {n : Nat} {x y : Str} (h : upto r (n + 1) = upto r n ++ [y]) (e : x = y) : [some (Mo.lst ((upto r n).map PyData.str ++ [PyData.str x]))] = [some (Mo.lst ((upto r (n + 1)).map PyData.str))] := by
  rw [h, e, List.map_append]
  rfl
theorem up_no {r : KindR} {n : Nat} (h : upto r (n + 1) = upto r n) : [some (Mo.lst ((upto r n).map PyData.str))] = [some (Mo.lst ((upto r (n + 1)).map PyData.str))] := by rw [h]
theorem up_at {r : KindR} {n : Nat} {l : List Str} (hn : n < 8) (h : addP r n = l) : upto r (n + 1) = upto r n ++ l := by rw [upto_succ r n hn, h]
theorem up_non {r : KindR} {n : Nat} (hn : n < 8) (h : addP r n = []) : upto r (n + 1) = upto r n := by rw [upto_succ r n hn, h, List.append_nil]
theorem fe_of {a b : Str} (x : Str) (h : a = b) : a ++ x = b ++ x := by rw [h]

theorem keep_len {r : KindR} (h : RGood r) : (keepS r).length ≤ 180 := by
  have h1 := join_len_le (Str.ofString ", ") (parts r) 20 fun y hy => (parts_nice h y hy).2
  have h2 := parts_len r
  have e2 : (Str.ofString ", ").length = 2 := by decide +kernel
  rw [e2] at h1
  show (Txt.join _ _).length ≤ _
  refine Nat.le_trans h1 ?_
  omega

structure ClockR where
  behind : Int
  ahead : Int
def clockF (r : ClockR) : List (Str × Z.Ent) := [("behind", .d (.int r.behind)), ("ahead", .d (.int r.ahead))]
def clockG (r : ClockR) : List (Str × PyData) := [("behind", .int r.behind), ("ahead", .int r.ahead)]
def clockD (K : PySem.W.Frag) (r : ClockR) : PyData := Z.ob (He.ga K "Clock") (clockG r)
theorem mk_clockD {K : PySem.W.Frag} {M M3 N : Ms} {P : Ent → Ms → Prop} {r : ClockR} (h1 : M3[M.length]? = some (some (.ins (He.ga K "Clock") (clockF r)))) (h3 : flatMs (M3.take M.length) = true) (h4 : M3.take M.length = N) (p : P (.d (clockD K r)) N) : MkEnd M (He.ga K "Clock") P (.d .none) M3 := mk_d (gs := clockG r) h1 h3 h4 p
theorem fl_clockD {K : PySem.W.Frag} {M : Ms} {r : ClockR} {f : Str} {e : Z.Ent} {R : Z.Ent → Prop} (hl : (clockF r).lookup f = some e) (p : R e) : ∃ C fs e, OV M (.d (clockD K r)) C fs ∧ C ∈ [He.ga K "Clock"] ∧ fs.lookup f = some e ∧ R e := ⟨_, _, e, OV.d rfl, List.mem_cons_self .., hl, p⟩
theorem me_clockD {K : PySem.W.Frag} {J : Jx} {Γ : Ga} {M : Ms} {P : Ent → Ms → Prop} {t tk : TA} {n m : Nat} {X : Xa} {c : ASp} {cvs : List V} {ces : List Z.Ent} {ix : List Nat} {r : ClockR} {mn : Str} (hl : (clockF r).lookup mn = none)
    (h : WA J t Γ M fun es M2 => WA J tk Γ M2 fun zs M3 => es.length = n ∧ zs.length = m ∧ Z.Fr c (perm ix ((.d (clockD K r) :: es) ++ (ces ++ zs))) M3 P X) :
    ∃ C' fs', OV M (.d (clockD K r)) C' fs' ∧ fs'.lookup mn = none ∧ ∃ y ∈ [(⟨He.ga K "Clock", c, cvs, ces, ix⟩ : MA)], y.C = C' ∧ WA J t Γ M fun es M2 => WA J tk Γ M2 fun zs M3 => es.length = n ∧ zs.length = m ∧ Z.Fr y.c (perm y.ix ((.d (clockD K r) :: es) ++ (y.ces ++ zs))) M3 P X :=
  ⟨_, _, OV.d rfl, hl, _, List.mem_cons_self .., rfl, h⟩
theorem pr_clockD {K : PySem.W.Frag} {M : Ms} {P : Ent → Ms → Prop} {X : Xa} {c : ASp} {cvs : List V} {ces : List Z.Ent} {ix : List Nat} {r : ClockR} (h : Z.Fr c [.d (clockD K r)] M P X) :
    ∃ C' fs', OV M (.d (clockD K r)) C' fs' ∧ ∃ y ∈ [(⟨He.ga K "Clock", c, cvs, ces, ix⟩ : MA)], y.C = C' ∧ Z.Fr y.c [.d (clockD K r)] M P X := ⟨_, _, OV.d rfl, _, List.mem_cons_self .., rfl, h⟩

def mkD (K : PySem.W.Frag) (p : Nat × MakeR) : PyData := makeD K p.1 p.2

structure SetR where
  makes : List (Nat × MakeR)
  kind : KindR
  clocks : List ClockR
  delays : List Int
  loses : Bool
def setF (K : PySem.W.Frag) (s : SetR) : List (Str × Z.Ent) := [("makes", .d (.list (s.makes.map (mkD K)))), ("kind", .d (kindD K s.kind)), ("clocks", .d (.list (s.clocks.map (clockD K)))), ("delays", .d (.list (s.delays.map PyData.int))), ("loses", .d (.bool s.loses))]
def setG (K : PySem.W.Frag) (s : SetR) : List (Str × PyData) := [("makes", .list (s.makes.map (mkD K))), ("kind", kindD K s.kind), ("clocks", .list (s.clocks.map (clockD K))), ("delays", .list (s.delays.map PyData.int)), ("loses", .bool s.loses)]
def setD (K : PySem.W.Frag) (s : SetR) : PyData := Z.ob (He.ga K "Setting") (setG K s)
theorem mk_setD {K : PySem.W.Frag} {M M3 N : Ms} {P : Ent → Ms → Prop} {r : SetR} (h1 : M3[M.length]? = some (some (.ins (He.ga K "Setting") (setF K r)))) (h3 : flatMs (M3.take M.length) = true) (h4 : M3.take M.length = N) (p : P (.d (setD K r)) N) : MkEnd M (He.ga K "Setting") P (.d .none) M3 := mk_d (gs := setG K r) h1 h3 h4 p
theorem fl_setD {K : PySem.W.Frag} {M : Ms} {r : SetR} {f : Str} {e : Z.Ent} {R : Z.Ent → Prop} (hl : (setF K r).lookup f = some e) (p : R e) : ∃ C fs e, OV M (.d (setD K r)) C fs ∧ C ∈ [He.ga K "Setting"] ∧ fs.lookup f = some e ∧ R e := ⟨_, _, e, OV.d rfl, List.mem_cons_self .., hl, p⟩
theorem me_setD {K : PySem.W.Frag} {J : Jx} {Γ : Ga} {M : Ms} {P : Ent → Ms → Prop} {t tk : TA} {n m : Nat} {X : Xa} {c : ASp} {cvs : List V} {ces : List Z.Ent} {ix : List Nat} {r : SetR} {mn : Str} (hl : (setF K r).lookup mn = none)
    (h : WA J t Γ M fun es M2 => WA J tk Γ M2 fun zs M3 => es.length = n ∧ zs.length = m ∧ Z.Fr c (perm ix ((.d (setD K r) :: es) ++ (ces ++ zs))) M3 P X) :
    ∃ C' fs', OV M (.d (setD K r)) C' fs' ∧ fs'.lookup mn = none ∧ ∃ y ∈ [(⟨He.ga K "Setting", c, cvs, ces, ix⟩ : MA)], y.C = C' ∧ WA J t Γ M fun es M2 => WA J tk Γ M2 fun zs M3 => es.length = n ∧ zs.length = m ∧ Z.Fr y.c (perm y.ix ((.d (setD K r) :: es) ++ (y.ces ++ zs))) M3 P X :=
  ⟨_, _, OV.d rfl, hl, _, List.mem_cons_self .., rfl, h⟩
theorem pr_setD {K : PySem.W.Frag} {M : Ms} {P : Ent → Ms → Prop} {X : Xa} {c : ASp} {cvs : List V} {ces : List Z.Ent} {ix : List Nat} {r : SetR} (h : Z.Fr c [.d (setD K r)] M P X) :
    ∃ C' fs', OV M (.d (setD K r)) C' fs' ∧ ∃ y ∈ [(⟨He.ga K "Setting", c, cvs, ces, ix⟩ : MA)], y.C = C' ∧ Z.Fr y.c [.d (setD K r)] M P X := ⟨_, _, OV.d rfl, _, List.mem_cons_self .., rfl, h⟩
def setOf (mk : List (Nat × MakeR)) (kd : KindR) (cl : Option (List ClockR)) (dl : Option (List Int)) (ls : Bool) : SetR := ⟨mk, kd, match cl with
  | none => List.replicate (mk.length + 1) ⟨0, 0⟩
  | some l => l, match dl with
  | none => List.replicate mk.length 0
  | some l => l, ls⟩

theorem rep_const {α β : Type} {c : β} {xs : List α} : ((xs.filter fun _ => true).map fun _ => c) = List.replicate xs.length c := by
  rw [List.filter_eq_self.mpr (fun _ _ => rfl)]
  exact List.map_const' ..
theorem rep_flat {α : Type} {c : α} : ∀ k : Nat, (List.replicate k [c]).flatten = List.replicate k c
  | 0 => rfl
  | k + 1 => by rw [List.replicate_succ, List.flatten_cons, rep_flat k, List.replicate_succ]; rfl
theorem dl_all {dl : List Int} (h : (dl.map (fun z => decide (0 ≤ z) && decide (z ≤ 1000))).all id = true) : ∀ x ∈ dl, 0 ≤ x ∧ x ≤ 1000 := by
  intro x hx
  have := List.all_eq_true.mp h _ (List.mem_map.mpr ⟨x, hx, rfl⟩)
  simpa using this
theorem dl_some {dl : List Int} (h : (dl.map (fun z => decide (0 ≤ z) && decide (z ≤ 1000))).all id = false) : ∃ x ∈ dl, ¬ (0 ≤ x ∧ x ≤ 1000) := by
  rw [List.all_eq_false] at h
  obtain ⟨b, hb, hn⟩ := h
  obtain ⟨x, hx, rfl⟩ := List.mem_map.mp hb
  exact ⟨x, hx, by simpa using hn⟩

def oclE (K : PySem.W.Frag) : Option (List ClockR) → PyData
  | none => .none
  | some l => .list (l.map (clockD K))
def odlE : Option (List Int) → PyData
  | none => .none
  | some l => .list (l.map PyData.int)
def GoodS (mk : List (Nat × MakeR)) (cl : Option (List ClockR)) (dl : Option (List Int)) : Prop := 1 ≤ mk.length ∧ mk.length ≤ 6 ∧ (∀ l, cl = some l → l.length = mk.length + 1) ∧ (∀ l, dl = some l → l.length = mk.length ∧ ∀ x ∈ l, 0 ≤ x ∧ x ≤ 1000)

@[reducible] def Pu (a b n : Int) : Mo := .lst [.int a, .int b, .int n]
structure MkRow where
  sort : Int
  sh : Bool
  gr : Option Int
  eg : Int
  te : Bool
  da : Bool
  ch : Bool
  du : Bool
  share : Int
  cap : Int
  room : Int
def rowD (r : MkRow) : PyData := .tuple [.int r.sort, .bool r.sh, oi r.gr, .int r.eg, .bool r.te, .bool r.da, .bool r.ch, .bool r.du, .int r.share, .int r.cap, .int r.room]
def okMk (r : MkRow) : Prop := (0 ≤ r.sort ∧ r.sort ≤ 5) ∧ (r.sort = 5 → r.sh = false) ∧ (∀ g, r.gr = some g → 0 ≤ g ∧ g ≤ 3) ∧ (0 ≤ r.eg ∧ r.eg ≤ 5) ∧ (0 ≤ r.share ∧ r.share ≤ 100) ∧ (0 ≤ r.cap) ∧ (1 ≤ r.room ∧ r.room ≤ 100)
def mkOf (r : MkRow) : Nat × MakeR := (if r.sort = 4 then 1 else if r.sort = 5 then 2 else 0, ⟨r.sh, r.gr, r.eg, r.te, r.da, r.ch, r.share, r.cap, r.du, r.room⟩)
def kdD (r : KindR) : PyData := .tuple (valsD r)
def spD : Option (List (Int × Int)) → PyData
  | none => .none
  | some l => .list (l.map prI)
def SpNe (sp : Option (List (Int × Int))) : Prop := ∀ l, sp = some l → l ≠ [] ∧ ∀ p ∈ l, (0 ≤ p.1 ∧ p.1 ≤ 1000) ∧ (0 ≤ p.2 ∧ p.2 ≤ 1000)
structure WoR where
  hops : Int
  makes : List MkRow
  kind : KindR
  spans : Option (List (Int × Int))
  links : Option (List Int)
  lossy : Bool
def worldK (w : WoR) : List (Key × PyData) := [(.inr "hops", .int w.hops), (.inr "makes", .list (w.makes.map rowD)), (.inr "kind", kdD w.kind), (.inr "spans", spD w.spans), (.inr "links", odlE w.links), (.inr "lossy", .bool w.lossy)]
theorem wk_hops (w : WoR) : kGet (worldK w) (.inr (Str.ofString "hops")) = some (.int w.hops) := by kernel_rfl
theorem wk_makes (w : WoR) : kGet (worldK w) (.inr (Str.ofString "makes")) = some (.list (w.makes.map rowD)) := by kernel_rfl
theorem wk_kind (w : WoR) : kGet (worldK w) (.inr (Str.ofString "kind")) = some (kdD w.kind) := by kernel_rfl
theorem wk_spans (w : WoR) : kGet (worldK w) (.inr (Str.ofString "spans")) = some (spD w.spans) := by kernel_rfl
theorem wk_links (w : WoR) : kGet (worldK w) (.inr (Str.ofString "links")) = some (odlE w.links) := by kernel_rfl
theorem wk_lossy (w : WoR) : kGet (worldK w) (.inr (Str.ofString "lossy")) = some (.bool w.lossy) := by kernel_rfl
def kSmall (k : KindR) : Prop := (∀ v, k.lasts = some v → v ≤ 2000) ∧ (∀ v, k.shared = some v → v ≤ 2000) ∧ k.late ≤ 2000 ∧ k.onerr ≤ 2000
structure okW (w : WoR) : Prop where
  n1 : 1 ≤ w.hops
  n2 : w.hops ≤ 6
  mc : (w.makes.length : Int) = w.hops
  mo : ∀ r ∈ w.makes, okMk r
  kd : RGood w.kind
  ks : kSmall w.kind
  sl : ∀ l, w.spans = some l → (l.length : Int) = w.hops + 1
  sx : ∀ l, w.spans = some l → ∀ p ∈ l, (0 ≤ p.1 ∧ p.1 ≤ 1000) ∧ (0 ≤ p.2 ∧ p.2 ≤ 1000)
  ll : ∀ l, w.links = some l → (l.length : Int) = w.hops
  lx : ∀ l, w.links = some l → ∀ x ∈ l, 0 ≤ x ∧ x ≤ 1000
def setW (w : WoR) : SetR := setOf (w.makes.map mkOf) w.kind (w.spans.map fun l => l.map fun p => ⟨p.1, p.2⟩) w.links w.lossy

theorem gr_ok {x : Option Int} (h : x ∈ [some 0, some 0, some 1, some 2, some 3, none]) : ∀ g, x = some g → 0 ≤ g ∧ g ≤ 3 := by
  intro g e
  subst e
  simp only [List.mem_cons, List.not_mem_nil, or_false, Option.some.injEq, reduceCtorEq] at h
  omega
theorem eg_ok {x : Int} (h : x ∈ [0, 0, 2, 5]) : 0 ≤ x ∧ x ≤ 5 := by
  simp only [List.mem_cons, List.not_mem_nil, or_false] at h
  omega
theorem lt_ok {x : Int} (h : x ∈ [0, 0, 0, 1, 2]) : 0 ≤ x ∧ x ≤ 4 := by
  simp only [List.mem_cons, List.not_mem_nil, or_false] at h
  omega
theorem oe_ok {x : Int} (h : x ∈ [0, 0, 0, 1, 4]) : 0 ≤ x ∧ x ≤ 4 := by
  simp only [List.mem_cons, List.not_mem_nil, or_false] at h
  omega
theorem mk_ok {x : Str} (h : x ∈ (["strong", "strong", "strong", "weak", "none", "none"] : List Str)) : x ∈ MARKS := by
  simp only [List.mem_cons, List.not_mem_nil, or_false] at h ⊢
  rcases h with h | h | h | h | h | h <;> simp [h]

theorem kr_ok {lf wd : Option Int} {lt oe ls extra : Int} {a b c d : Bool} {m : Str} {e : Bool} (h1 : ∀ v, lf = some v → 0 ≤ v ∧ v ≤ 5 + extra) (h2 : ∀ v, wd = some v → 0 ≤ v ∧ v ≤ 6) (hx : extra ≤ 1000) (h3 : 0 ≤ lt ∧ lt ≤ 4) (h4 : 0 ≤ oe ∧ oe ≤ 4) (h5 : m ∈ MARKS) (h6 : 0 ≤ ls ∧ ls ≤ 3000) : RGood ⟨lf, wd, lt, oe, a, b, c, d, m, e, ls⟩ ∧ kSmall ⟨lf, wd, lt, oe, a, b, c, d, m, e, ls⟩ := by
  refine ⟨⟨?_, ?_, inR_iff.mpr ⟨h3.1, by dsimp only; omega⟩, inR_iff.mpr ⟨h4.1, by dsimp only; omega⟩, h5, inR_iff.mpr ⟨h6.1, by dsimp only; omega⟩⟩, fun v e => ?_, fun v e => ?_, by dsimp only; omega, by dsimp only; omega⟩
  · cases lf with
    | none => rfl
    | some v =>
      have := h1 v rfl
      exact inR_iff.mpr ⟨this.1, by omega⟩
  · cases wd with
    | none => rfl
    | some v =>
      have := h2 v rfl
      exact inR_iff.mpr ⟨this.1, by omega⟩
  · have := h1 v e
    omega
  · have := h2 v e
    omega

def tellsB (r : MakeR) (k : KindR) : Bool := k.lasts.isSome || (r.shared && k.shared.isSome)
def knownB (w : WoR) : Bool := w.makes.all fun r => tellsB (mkOf r).2 w.kind
def clW (sp : Option (List (Int × Int))) : Option (List ClockR) := sp.map fun l => l.map fun p => ⟨p.1, p.2⟩
theorem w_good {w : WoR} (h : okW w) : GoodS (w.makes.map mkOf) (clW w.spans) w.links := by
  have h1 := h.mc
  have h2 := h.n1
  have h3 := h.n2
  refine ⟨by rw [List.length_map]; omega, by rw [List.length_map]; omega, fun l e => ?_, fun l e => ⟨?_, h.lx l e⟩⟩
  · unfold clW at e
    cases hs : w.spans with
    | none => rw [hs] at e; cases e
    | some l2 =>
      rw [hs] at e
      have := h.sl l2 hs
      cases e
      rw [List.length_map, List.length_map]
      omega
  · have := h.ll l e
    rw [List.length_map]
    omega

def limR (w : Nat) (r : MakeR) (k : KindR) (oe : Bool) : Option Int := if k.check = true ∨ keepM r (dirs []) (dirK k) = false then some 0 else match (if oe = true then eallowC w r (dirs []) (dirK k) else allowC w r (dirs []) (dirK k)) with
  | none => none
  | some e => some (lifeM r (dirK k) none none + e)
abbrev NLv (K : PySem.W.Frag) : Value := .ref (He.ga K "NoLifetime")

theorem enumE {α : Type} {f : α → PyData} {xs : List α} : zipE ((List.range (xs.map f).length).map fun (i : Nat) => PyData.int (i : Int)) (xs.map f) = xs.zipIdx.map fun p => Ent.d (.tuple [.int (p.2 : Int), f p.1]) := by
  refine List.ext_getElem? fun i => ?_
  simp only [zipE, List.getElem?_map, List.getElem?_zip_eq_some, List.length_map, List.getElem?_zipIdx]
  cases h : xs[i]? with
  | none =>
    have hl : xs.length ≤ i := List.getElem?_eq_none_iff.mp h
    rw [List.getElem?_eq_none (by simp; omega)]
    rfl
  | some x =>
    have hl := (List.getElem?_eq_some_iff.mp h).1
    rw [List.getElem?_eq_getElem (by simpa using hl)]
    simp [(List.getElem?_eq_some_iff.mp h).2]
theorem chk_len {α : Type} {p : α → Bool} {xs : List α} {f : α × Nat → Int} : decide (((xs.zipIdx.filter fun z => p z.1).map f).length = 0) = xs.all fun x => !p x := by
  rw [List.length_map, Bool.eq_iff_iff, decide_eq_true_eq, List.length_eq_zero_iff, List.filter_eq_nil_iff, List.all_eq_true]
  constructor
  · intro h x hx
    rw [← List.zipIdx_map_fst 0 xs] at hx
    obtain ⟨z, hz, rfl⟩ := List.mem_map.mp hx
    simpa using h z hz
  · intro h z hz
    have hx : z.1 ∈ xs := by
      rw [← List.zipIdx_map_fst 0 xs]
      exact List.mem_map.mpr ⟨z, hz, rfl⟩
    simpa using h _ hx
structure okSt (s : SetR) : Prop where
  n1 : 1 ≤ s.makes.length
  n2 : s.makes.length ≤ 6
  cl : s.clocks.length = s.makes.length + 1
  dl : s.delays.length = s.makes.length
  ms : ∀ p ∈ s.makes, 0 ≤ p.2.share ∧ p.2.share ≤ 100
  kd : RGood s.kind
  dx : ∀ x ∈ s.delays, 0 ≤ x ∧ x ≤ 1000
  cx : ∀ c ∈ s.clocks, (0 ≤ c.behind ∧ c.behind ≤ 1000) ∧ (0 ≤ c.ahead ∧ c.ahead ≤ 1000)
def knownS (s : SetR) : Bool := s.makes.all fun p => tellsB p.2 s.kind
def limsS (s : SetR) : List (Option Int) := s.makes.map fun p => limR p.1 p.2 s.kind s.loses
def chkB (k : KindR) (p : Nat × MakeR) : Bool := p.2.checks && keepM p.2 (dirs []) (dirK k)
def spanO (l : List ClockR) : Int := match l.getLast? with
  | some c => c.behind + c.ahead
  | none => 0
def soundS (s : SetR) : Bool := (s.makes.all fun p => !chkB s.kind p) || (!decide (s.kind.mark = "weak") && !(decide (s.kind.mark = "none") && (s.kind.dated && decide (s.kind.margin ≤ spanO s.clocks))))
theorem w_okSt {w : WoR} (h : okW w) : okSt (setW w) := by
  obtain ⟨g1, g2, g3, g4⟩ := w_good h
  refine ⟨g1, g2, ?_, ?_, fun p hp => ?_, h.kd, fun x hx => ?_, fun c hc => ?_⟩
  · show List.length (match clW w.spans with
      | none => List.replicate ((w.makes.map mkOf).length + 1) (⟨0, 0⟩ : ClockR)
      | some l => l) = _
    cases hc : clW w.spans with
    | none => exact List.length_replicate
    | some l => exact g3 l hc
  · show List.length (match w.links with
      | none => List.replicate (w.makes.map mkOf).length (0 : Int)
      | some l => l) = _
    cases hc : w.links with
    | none => exact List.length_replicate
    | some l => exact (g4 l hc).1
  · obtain ⟨r, hr, rfl⟩ := List.mem_map.mp (show p ∈ w.makes.map mkOf from hp)
    exact (h.mo r hr).2.2.2.2.1
  · have hx : x ∈ (match w.links with
      | none => List.replicate (w.makes.map mkOf).length (0 : Int)
      | some l => l) := hx
    cases hc : w.links with
    | none =>
      rw [hc] at hx
      have := (List.mem_replicate.mp hx).2
      omega
    | some l =>
      rw [hc] at hx
      exact h.lx l hc x hx
  · have hc : c ∈ (match clW w.spans with
      | none => List.replicate ((w.makes.map mkOf).length + 1) (⟨0, 0⟩ : ClockR)
      | some l => l) := hc
    cases hs : w.spans with
    | none =>
      rw [hs] at hc
      have := (List.mem_replicate.mp hc).2
      rw [this]
      decide
    | some l =>
      rw [hs] at hc
      obtain ⟨p, hp, rfl⟩ := List.mem_map.mp (show c ∈ l.map fun p : Int × Int => (⟨p.1, p.2⟩ : ClockR) from hc)
      exact h.sx l hs p hp
theorem knownS_w (w : WoR) : knownS (setW w) = knownB w := by
  unfold knownS knownB
  show ((w.makes.map mkOf).all _) = _
  rw [List.all_map]
  rfl
theorem all_take {α : Type} {p : α → Bool} {xs : List α} (h : ∀ x ∈ xs, p x = true) : xs.all p = true := List.all_eq_true.mpr h
theorem all_no {α : Type} {p : α → Bool} {xs : List α} {x : α} (hx : x ∈ xs) (h : p x = false) : xs.all p = false := by
  rw [List.all_eq_false]
  exact ⟨x, hx, by rw [h]; decide⟩

def trustB (k : KindR) (r : MkRow) : Bool := r.ch && (!k.never && !(k.own && r.sh))
def spanW : Option (List (Int × Int)) → Int
  | none => 0
  | some l => match l.getLast? with
    | some p => p.1 + p.2
    | none => 0
def soundW (w : WoR) : Bool := (w.makes.all fun r => !trustB w.kind r) || (decide (w.kind.mark = "strong") || (decide (w.kind.mark = "none") && !(w.kind.dated && decide (w.kind.margin ≤ spanW w.spans))))
theorem b_of {R : Bool → Ms → Prop} {b b' : Bool} {M : Ms} (h : R b M) (e : b' = b) : R b' M := e ▸ h
theorem row_flat (r : MkRow) : flat2 (rowD r) = true := by
  obtain ⟨sort, sh, gr, eg, te, da, ch, du, share, cap, room⟩ := r
  cases gr <;> rfl
theorem rows_flat (l : List MkRow) : (l.map rowD).all flat2 = true := by
  rw [List.all_map, List.all_eq_true]
  exact fun r _ => row_flat r
theorem trust_nil {k : KindR} {l : List MkRow} : decide ((l.filter fun z => trustB k z).map rowD = []) = l.all fun r => !trustB k r := by
  rw [Bool.eq_iff_iff, decide_eq_true_eq, List.map_eq_nil_iff, List.filter_eq_nil_iff, List.all_eq_true]
  constructor
  · intro h x hx
    simpa using h x hx
  · intro h x hx
    simpa using h x hx

theorem cutD_map {α : Type} {f : α → PyData} {xs : List α} {i j : Int} (hi : 0 ≤ i) (hj : 0 ≤ j) : cutD (xs.map f) (some i) (some j) = ((xs.take j.toNat).drop i.toNat).map f := by
  rw [cutD_mid hi hj, List.map_drop, List.map_take]
theorem cutD_end {α : Type} {f : α → PyData} {xs : List α} {n : Nat} (h : xs.length = n + 1) : cutD (xs.map f) (some (-1)) none = (xs.drop n).map f := by
  have hne : xs ≠ [] := fun e => by rw [e] at h; cases h
  have e : xs = xs.dropLast ++ [xs.getLast hne] := (List.dropLast_concat_getLast hne).symm
  have hl : xs.dropLast.length = n := by rw [List.length_dropLast, h]; rfl
  rw [e, List.map_append]
  show cutD (_ ++ [f _]) _ _ = _
  rw [cutD_last, List.drop_left' hl]
  rfl
theorem chk_row {k : KindR} {r : MkRow} : chkB k (mkOf r) = trustB k r := by
  unfold chkB trustB keepM mkOf dirK
  have : (dirs []).never = false := by decide +kernel
  rw [this]
  dsimp only
  cases r.ch <;> cases k.never <;> cases k.own <;> cases r.sh <;> rfl
theorem span_w (w : WoR) : spanO (setW w).clocks = spanW w.spans := by
  show spanO (match clW w.spans with
      | none => List.replicate ((w.makes.map mkOf).length + 1) (⟨0, 0⟩ : ClockR)
      | some l => l) = _
  cases w.spans with
  | none =>
    show spanO (List.replicate _ _) = 0
    unfold spanO
    rw [List.getLast?_replicate]
    simp
  | some l =>
    show spanO (l.map fun p : Int × Int => (⟨p.1, p.2⟩ : ClockR)) = spanW (some l)
    unfold spanO spanW
    rw [List.getLast?_map]
    cases hg : l.getLast? <;> simp [hg]
theorem sound_w {w : WoR} (h : okW w) : soundS (setW w) = soundW w := by
  unfold soundS soundW
  rw [span_w]
  have e : ((setW w).makes.all fun p => !chkB (setW w).kind p) = w.makes.all fun r => !trustB w.kind r := by
    show ((w.makes.map mkOf).all _) = _
    rw [List.all_map]
    congr 1
    funext r
    show (!chkB w.kind (mkOf r)) = _
    rw [chk_row]
  rw [e]
  show (_ || (!decide (w.kind.mark = "weak") && !(decide (w.kind.mark = "none") && (w.kind.dated && decide (w.kind.margin ≤ spanW w.spans))))) = _
  generalize decide (w.kind.margin ≤ spanW w.spans) = q
  generalize (w.makes.all fun r => !trustB w.kind r) = al
  have hm := h.kd.2.2.2.2.1
  generalize w.kind.mark = m at *
  generalize w.kind.dated = d at *
  have : ∀ m ∈ MARKS, ∀ al d q : Bool, (al || (!decide (m = "weak") && !(decide (m = "none") && (d && q)))) = (al || (decide (m = "strong") || (decide (m = "none") && !(d && q)))) := by decide +kernel
  exact this m hm al d q

def partS (s : SetR) (i j : Int) : SetR := ⟨(s.makes.take j.toNat).drop (i - 1).toNat, s.kind, (s.clocks.take j.toNat).drop (i - 1).toNat ++ s.clocks.drop s.makes.length, (s.delays.take j.toNat).drop (i - 1).toNat, s.loses⟩
def partW (w : WoR) (i j : Int) : WoR := ⟨j + 1 - i, (w.makes.take j.toNat).drop (i - 1).toNat, w.kind, w.spans.map fun l => (l.take j.toNat).drop (i - 1).toNat ++ l.drop w.hops.toNat, w.links.map fun l => (l.take j.toNat).drop (i - 1).toNat, w.lossy⟩
theorem part_ok {w : WoR} {i j : Int} (h : okW w) (h1 : 1 ≤ i) (h2 : i ≤ j) (h3 : j ≤ w.hops) : okW (partW w i j) := by
  have hm := h.mc
  have hn := h.n2
  refine ⟨by show 1 ≤ j + 1 - i; omega, by show j + 1 - i ≤ 6; omega, ?_, fun r hr => h.mo r (List.mem_of_mem_take (List.mem_of_mem_drop hr)), h.kd, h.ks, fun l e => ?_, fun l e p hp => ?_, fun l e => ?_, fun l e x hx => ?_⟩
  · show (((w.makes.take j.toNat).drop (i - 1).toNat).length : Int) = j + 1 - i
    rw [List.length_drop, List.length_take]
    omega
  · cases hs : w.spans with
    | none => simp [partW, hs] at e
    | some l2 =>
      have := h.sl l2 hs
      have e2 : (l2.take j.toNat).drop (i - 1).toNat ++ l2.drop w.hops.toNat = l := by simpa [partW, hs] using e
      rw [← e2, List.length_append, List.length_drop, List.length_take, List.length_drop]
      show _ = j + 1 - i + 1
      omega
  · cases hs : w.spans with
    | none => simp [partW, hs] at e
    | some l2 =>
      have e2 : (l2.take j.toNat).drop (i - 1).toNat ++ l2.drop w.hops.toNat = l := by simpa [partW, hs] using e
      rw [← e2] at hp
      rcases List.mem_append.mp hp with hp | hp
      · exact h.sx l2 hs p (List.mem_of_mem_take (List.mem_of_mem_drop hp))
      · exact h.sx l2 hs p (List.mem_of_mem_drop hp)
  · cases hs : w.links with
    | none => simp [partW, hs] at e
    | some l2 =>
      have := h.ll l2 hs
      have e2 : (l2.take j.toNat).drop (i - 1).toNat = l := by simpa [partW, hs] using e
      rw [← e2, List.length_drop, List.length_take]
      show _ = j + 1 - i
      omega
  · cases hs : w.links with
    | none => simp [partW, hs] at e
    | some l2 =>
      have e2 : (l2.take j.toNat).drop (i - 1).toNat = l := by simpa [partW, hs] using e
      rw [← e2] at hx
      exact h.lx l2 hs x (List.mem_of_mem_take (List.mem_of_mem_drop hx))
theorem rep_take {α : Type} {a : α} {n i j : Nat} : ((List.replicate n a).take j).drop i = List.replicate (min j n - i) a := by
  rw [List.take_replicate, List.drop_replicate]
theorem part_w {w : WoR} {i j : Int} (h : okW w) (h1 : 1 ≤ i) (h2 : i ≤ j) (h3 : j ≤ w.hops) : partS (setW w) i j = setW (partW w i j) := by
  have hm := h.mc
  have hn := h.n2
  have e1 : ((w.makes.take j.toNat).drop (i - 1).toNat).length = (j + 1 - i).toNat := by rw [List.length_drop, List.length_take]; omega
  unfold partS setW setOf partW
  simp only [List.map_drop, List.map_take, SetR.mk.injEq, true_and, and_true]
  refine ⟨?_, ?_⟩
  · cases hs : w.spans with
    | none =>
      dsimp only [Option.map_none]
      rw [rep_take, List.drop_replicate, List.length_map, ← List.map_take, ← List.map_drop, List.length_map, e1, List.replicate_append_replicate]
      congr 1
      omega
    | some l =>
      have hl := h.sl l hs
      dsimp only [Option.map_some]
      rw [List.map_append, List.map_drop, List.map_take, List.length_map, List.map_drop]
      congr 2
      omega
  · cases hs : w.links with
    | none =>
      dsimp only [Option.map_none]
      rw [rep_take, List.length_map, ← List.map_take, ← List.map_drop, List.length_map, e1]
      congr 1
      omega
    | some l => rfl

/-! stepping -/
theorem isN_oit {o : Option Int} : (isN (.d (oi o)) = true) = (o = none) := by cases o <;> simp [isN]
def IsSm {α : Type} (o : Option α) : Prop := ∃ v, o = some v
theorem isN_oif {o : Option Int} : (isN (.d (oi o)) = false) = IsSm o := by cases o <;> simp [isN, IsSm]
local macro_rules | `(tactic| fail "zs") => `(tactic| first
  | with_reducible assumption
  | with_reducible exact List.mem_cons_self ..
  | with_reducible exact List.mem_cons_of_mem _ (List.mem_cons_self ..)
  | with_reducible exact List.mem_cons_of_mem _ (List.mem_cons_of_mem _ (List.mem_cons_self ..))
  | omega
  | ((with_reducible show _ = _); rfl)
  | (with_reducible trivial)
  | exact Or.inr ⟨by decide, by decide⟩
  | exact Or.inl ⟨by decide, by decide⟩
  | exact ⟨by decide, by decide, by decide⟩
  | exact ⟨by decide, by decide⟩
  | exact cmul_fm (by decide) (by decide)
  | ((with_reducible show CMul _ _); first | exact Or.inl ⟨by omega, by omega⟩ | exact Or.inr ⟨by omega, by omega⟩)
  | ((with_reducible show CDivN _ _); exact cdivN (by omega) (by omega))
  | (simp only [List.length_map, List.length_append, List.length_take, List.length_drop, List.length_reverse, List.length_cons, List.length_nil, len_app, len_empty, len_one, sizeLine] at *; first | done | omega))
local macro_rules | `(tactic| focus fail "zk") => `(tactic| fail "no")
local macro_rules | `(tactic| unhygienic fail "zx") => `(tactic| fail "no")
local macro_rules | `(tactic| fail "zld") => `(tactic| first
  | with_reducible exact LD.d
  | with_reducible exact LD.w
  | (refine LD.r ?_; rfl))
local macro_rules | `(tactic| fail "zlh") => `(tactic| first
  | with_reducible exact LH.d
  | (refine LH.r ?_; rfl))
local macro_rules | `(tactic| fail "zdv") => `(tactic| first
  | with_reducible exact DV.d
  | with_reducible exact DV.w
  | (refine @DV.r _ _ ?ds9 ?h9; case h9 => rfl))
local macro_rules | `(tactic| fail "zdm") => `(tactic| ((try dsimp only [List.set_cons_zero, List.set_cons_succ, List.cons_append, List.nil_append, List.append_nil, List.length_cons, List.length_nil, List.take_succ_cons, List.take_zero, Nat.reduceAdd, Int.reduceToNat]); rfl))
-- frames and memories written out
local macro_rules | `(tactic| fail "zg") => `(tactic| try dsimp only [upG, startG, padG, nonesG, List.map_cons, List.map_nil, List.length_cons, List.length_nil, List.foldl_cons, List.foldl_nil, List.set_cons_zero, List.set_cons_succ, List.cons_append, List.nil_append, List.append_nil, Nat.reduceAdd, Nat.reduceSub])
local macro_rules | `(tactic| fail "zcv") => `(tactic| first
  | with_reducible exact cvy_nil
  | with_reducible exact cv_nil
  | ((with_reducible refine cvy_cons ?h1 ?h2); (case h1 => fail "zcv"); (case h2 => fail "zcv"))
  | ((with_reducible refine cv_int (es := ?e9) ?h9); (case h9 => fail "zcv"))
  | ((with_reducible refine cv_bl (es := ?e9) ?h9); (case h9 => fail "zcv"))
  | ((with_reducible refine cv_str (es := ?e9) ?h9); (case h9 => fail "zcv"))
  | ((with_reducible refine cv_non (es := ?e9) ?h9); (case h9 => fail "zcv"))
  | ((with_reducible refine cv_adr (es := ?e9) ?h9); (case h9 => fail "zcv")))
local macro_rules | `(tactic| fail "zlk") => `(tactic| first
  | with_reducible exact lk_here
  | ((with_reducible refine lk_next ?hne ?_); (case hne => decide +kernel); fail "zlk"))
-- typed lists
local macro_rules | `(tactic| fail "zmp") => `(tactic| first
  | with_reducible exact im_map
  | with_reducible exact im_nil
  | ((with_reducible refine im_cons (xs := ?x9) ?h9); (case h9 => fail "zmp"))
  | ((with_reducible refine im_app (xs := ?x9) (ys := ?y9) ?h9 ?h8); (case h9 => fail "zmp"); (case h8 => fail "zmp"))
  | ((with_reducible refine im_take (xs := ?x9) ?h9); (case h9 => fail "zmp"))
  | ((with_reducible refine im_drop (xs := ?x9) ?h9); (case h9 => fail "zmp"))
  | ((with_reducible refine im_rev (xs := ?x9) ?h9); (case h9 => fail "zmp")))
local macro_rules | `(tactic| fail "zmi") => `(tactic| (show IsM PyData.int _ ?_; fail "zmp"))
local macro_rules | `(tactic| fail "zms") => `(tactic| (show IsM PyData.str _ ?_; fail "zmp"))
local macro_rules | `(tactic| fail "zmb") => `(tactic| (show IsM PyData.bool _ ?_; fail "zmp"))
local macro_rules | `(tactic| fail "zoAdd") => `(tactic| ((with_reducible show O2 _ (rAddU _) _ _ _ _); first
  | with_reducible refine o_add ?_
  | with_reducible refine o_addS ?_ ?_
  | ((with_reducible refine o_cat (xs := ?xs) (ys := ?ys) ?h1 ?h2 ?_ ?_); (case h1 => fail "zlh"); (case h2 => fail "zlh"))))
local macro_rules | `(tactic| fail "zoEq") => `(tactic| ((with_reducible show O2 _ (rEqU _) _ _ _ _); first
  | with_reducible refine o_eq ?_
  | with_reducible refine o_eqT ?_
  | with_reducible refine o_eqB ?_))
local macro_rules | `(tactic| fail "zoNe") => `(tactic| ((with_reducible show O2 _ (rNeU _) _ _ _ _); first
  | with_reducible refine o_ne ?_
  | with_reducible refine o_neT ?_
  | with_reducible refine o_neB ?_))
local macro_rules | `(tactic| fail "zoIx") => `(tactic| ((with_reducible show O2 _ (rIx _) _ _ _ _); first
  | ((with_reducible refine o_ixLast (ds := ?ds9) (d := ?d9) ?hl ?_); (case hl => fail "zld"))
  | with_reducible refine o_ixS ?_ ?_ ?_
  | ((with_reducible refine o_ixL (d := ?d) (ds := ?ds) ?hl ?h ?_); (case hl => fail "zld"); (case h => first | (with_reducible assumption) | rfl | (refine atI_nat' ?h0 ?h1; (case h0 => decide); (case h1 => rfl))))
  | ((with_reducible refine o_ixT (d := ?d) ?h ?_); (case h => first | (with_reducible assumption) | rfl))
  | with_reducible refine o_ix2s ?_ ?_ ?_ ?_
  | ((with_reducible refine o_ixIm (ds := ?ds) (ns := ?ns) ?hl ?h ?_ ?_ ?_); (case hl => fail "zld"); (case h => rfl))
  | ((with_reducible refine o_ixIs (ds := ?ds) (ns := ?ns) ?hl ?h ?_ ?_ ?_); (case hl => fail "zld"); (case h => fail "zmi"))
  | ((with_reducible refine o_ixTm (ds := ?ds) (xs := ?ns) ?hl ?h ?_ ?_ ?_); (case hl => fail "zld"); (case h => rfl))
  | ((with_reducible refine o_ixTt (ds := ?ds) (xs := ?ns) ?hl ?h ?_ ?_ ?_); (case hl => fail "zld"); (case h => fail "zms"))
  | with_reducible refine o_ixSl ?_ ?_ ?_ ?_
  | ((with_reducible refine o_ixE (es := ?es) (d := ?dd) ?hm ?hx ?_); (case hm => rfl); (case hx => rfl))))
local macro_rules | `(tactic| fail "zoIn") => `(tactic| ((with_reducible show O2 _ (rInU _) _ _ _ _); first
  | with_reducible refine o_inC ?_
  | ((with_reducible refine o_inTm (ss := ?ns) ?h ?_); (case h => rfl))
  | ((with_reducible refine o_inLs (ss := ?ss) (ds := ?ds) ?hd ?hs ?_); (case hd => fail "zld"); (case hs => fail "zms"))))
local macro_rules | `(tactic| fail "zoNi") => `(tactic| ((with_reducible show O2 _ (rNotInU _) _ _ _ _); first
  | with_reducible refine o_notInC ?_
  | ((with_reducible refine o_notInTm (ss := ?ns) ?h ?_); (case h => rfl))
  | ((with_reducible refine o_notInLs (ss := ?ss) (ds := ?ds) ?hd ?hs ?_); (case hd => fail "zld"); (case hs => fail "zms"))))
local macro_rules | `(tactic| fail "zoMv") => `(tactic| ((with_reducible show O2 _ (rMulV _) _ _ _ _); first
  | with_reducible refine o_mulIv ?_ ?_
  | with_reducible refine o_mulSv ?_ ?_
  | ((with_reducible refine o_mulLv (ds := ?ds) ?hd ?_ ?_ ?_); (case hd => fail "zld"))))
local macro_rules | `(tactic| fail "zoMu") => `(tactic| ((with_reducible show O2 _ rMulU _ _ _ _); first
  | with_reducible refine o_mulI ?_ ?_
  | with_reducible refine o_mulS ?_ ?_))
local macro_rules | `(tactic| fail "zoIs") => `(tactic| ((with_reducible show O2 _ rIsU _ _ _ _); first
  | with_reducible refine o_isNu ?_
  | with_reducible refine o_isB ?_))
local macro_rules | `(tactic| fail "zoIv") => `(tactic| ((with_reducible show O2 _ rIsV _ _ _ _); first
  | with_reducible refine o_isVN ?_
  | with_reducible refine o_isVB ?_
  | with_reducible refine o_isVI ?_))
local macro_rules | `(tactic| fail "zoIn2") => `(tactic| ((with_reducible show O2 _ rIsNotU _ _ _ _); first
  | with_reducible refine o_isNotNu ?_
  | with_reducible refine o_isNotB ?_))
local macro_rules | `(tactic| fail "zo") => `(tactic| ((with_reducible show O2 _ _ _ _ _ _); first
  | fail "zoAdd"
  | fail "zoEq"
  | fail "zoNe"
  | fail "zoIx"
  | with_reducible refine o_sub ?_
  | ((with_reducible refine o_eqDF (as := ?as) (bs := ?bs) ?ha ?hb ?fa ?fb ?_); (case ha => rfl); (case hb => rfl); (case fa => first | with_reducible assumption | rfl); (case fb => first | with_reducible assumption | rfl))
  | ((with_reducible refine o_fdivP ?h0 ?hb ?_); (case h0 => first | decide | omega); (case hb => first | decide | omega))
  | with_reducible refine o_fdiv ?_ ?_
  | ((with_reducible refine o_modP ?h0 ?_); (case h0 => first | decide | omega))
  | with_reducible refine o_mod ?_ ?_
  | with_reducible refine o_pow ?_ ?_
  | with_reducible refine o_lt ?_
  | with_reducible refine o_le ?_
  | with_reducible refine o_gt ?_
  | with_reducible refine o_ge ?_
  | with_reducible refine o_ltS ?_
  | with_reducible refine o_leS ?_
  | with_reducible refine o_gtS ?_
  | with_reducible refine o_notN ?_
  | fail "zoIn"
  | fail "zoNi"
  | fail "zoMv"
  | fail "zoMu"
  | fail "zoIs"
  | fail "zoIv"
  | fail "zoIn2"))
local macro_rules | `(tactic| fail "zoM") => `(tactic| ((with_reducible show O2M _ _ _ _ _ _); ((with_reducible refine o_catM (xs := ?xs) (ys := ?ys) ?h1 ?h2 ?_ ?_); (case h1 => fail "zlh"); (case h2 => fail "zlh"))))
local macro_rules | `(tactic| fail "znob") => `(tactic| first
  | rfl
  | exact noObj_strs _
  | exact noObj_map _ _ (by intro x; (try rcases x with ⟨_ | _, _ | _⟩) <;> rfl))
local macro_rules | `(tactic| fail "zn") => `(tactic| ((with_reducible show ON _ _ _ _ _); first
  | with_reducible refine n_lenS ?_ ?_
  | ((with_reducible refine n_lenL (ds := ?ds) ?h ?_); (case h => fail "zld"))
  | with_reducible refine n_lenT ?_
  | ((with_reducible refine n_lenE (es := ?es) ?hm ?_); (case hm => rfl))
  | with_reducible refine n_abs ?_
  | with_reducible refine n_max2 ?_
  | with_reducible refine n_min2 ?_
  | ((with_reducible refine n_maxI (ds := ?ds) (ns := ?ns) ?hd ?he ?h2 ?hz ?_); (case hd => rfl); (case he => rfl); (case h2 => rfl); (case hz => rfl))
  | ((with_reducible refine n_minI (ds := ?ds) (ns := ?ns) ?hd ?he ?h2 ?hz ?_); (case hd => rfl); (case he => rfl); (case h2 => rfl); (case hz => rfl))
  | with_reducible refine n_int ?_
  | with_reducible refine n_str ?_ ?_
  | with_reducible refine n_intS ?_ ?_ ?_
  | with_reducible refine n_ord ?_
  | ((with_reducible refine n_sum (ds := ?ds) (ns := ?ns) ?h ?he ?_); (case h => fail "zld"); (case he => fail "zmi"))
  | ((with_reducible refine n_all (ds := ?ds) (bs := ?ns) ?h ?he ?_); (case h => fail "zld"); (case he => fail "zmb"))
  | ((with_reducible refine n_any (ds := ?ds) (bs := ?ns) ?h ?he ?_); (case h => fail "zld"); (case he => fail "zmb"))
  | ((with_reducible refine n_list (ds := ?ds) ?h ?_); (case h => fail "zld"))
  | with_reducible refine n_listT ?_
  | with_reducible refine n_isiL ?_
  | ((with_reducible refine n_isi (d := ?d) (b := true) ?hv ?h1 ?h2 ?h3 ?_); (case hv => fail "zdv"); (case h3 => rfl); (case h2 => simp); (case h1 => fail "znob"))
  | ((with_reducible refine n_isi (d := ?d) (b := false) ?hv ?h1 ?h2 ?h3 ?_); (case hv => fail "zdv"); (case h3 => rfl); (case h2 => simp); (case h1 => fail "znob"))))
local macro_rules | `(tactic| fail "znM") => `(tactic| ((with_reducible show ONM _ _ _ _ _); first
  | ((with_reducible refine n_listM (ds := ?ds) ?h ?_); (case h => fail "zld"))
  | with_reducible refine n_listTM ?_))
local macro_rules | `(tactic| fail "zm") => `(tactic| ((with_reducible show OM _ _ _ _ _ _); first
  | with_reducible refine m_startswith ?_
  | with_reducible refine m_endswith ?_
  | with_reducible refine m_find ?_
  | with_reducible refine m_partition ?_ ?_ ?_
  | with_reducible refine m_strip ?_ ?_
  | with_reducible refine m_split ?_ ?_ ?_
  | with_reducible refine m_upper ?_ ?_
  | with_reducible refine m_lower ?_ ?_
  | ((with_reducible refine m_join (ds := ?ds) (ys := ?ys) ?hd ?he ?_ ?_); (case hd => fail "zld"); (case he => fail "zms"))
  | ((with_reducible refine m_append (ds := ?ds) ?hm ?_ ?_); (case hm => rfl))
  | ((with_reducible refine m_appendE (ds := ?ds) ?hm ?_ ?_); (case hm => rfl))))
local macro_rules | `(tactic| fail "zS") => `(tactic| ((with_reducible show Sx _ _ _ _ _); first
  | with_reducible refine s_seq ?_
  | with_reducible refine s_set ?_
  | ((with_reducible refine s_retF (n := ?n) (ds := ?ds) ?h ?hm ?_); (case h => rfl); (case hm => rfl))
  | with_reducible refine s_ret ?_
  | with_reducible refine s_retN ?_
  | with_reducible refine s_if ?_
  | with_reducible refine s_drop ?_
  | with_reducible refine s_next ?_
  | with_reducible refine s_break ?_
  | with_reducible refine s_cont ?_
  | with_reducible refine s_asg ?_
  | with_reducible refine s_dput ?_
  | with_reducible refine s_fldS ?_
  | with_reducible refine s_raiseX .as ?_
  | with_reducible refine s_raise0 .as ?_
  | with_reducible refine s_tryA .as (fun W => ?_)
  | with_reducible refine s_tryA .no (fun W => ?_)
  | with_reducible refine s_tryO .as (fun W => ?_)
  | with_reducible refine s_tryO .no (fun W => ?_)))
local macro_rules | `(tactic| fail "zW") => `(tactic| ((with_reducible show Wx _ _ _ _ _); first
  | ((with_reducible refine w_var (e := ?e) ?h ?_); (case h => rfl))
  | with_reducible refine w_op ?_
  | with_reducible refine w_int ?_
  | with_reducible refine w_str ?_
  | with_reducible refine w_bl ?_
  | with_reducible refine w_non ?_
  | with_reducible refine w_ty ?_
  | with_reducible refine w_adr ?_
  | with_reducible refine w_call ?_
  | with_reducible refine w_cb ?_
  | with_reducible refine w_lst ?_
  | with_reducible refine w_tup ?_
  | with_reducible refine w_m1 ?_
  | with_reducible refine w_m0 ?_
  | with_reducible refine w_bm ?_
  | with_reducible refine w_bm0 ?_
  | with_reducible refine w_slice ?_
  | with_reducible refine w_chain ?_
  | with_reducible refine w_andT ?_
  | with_reducible refine w_orT ?_
  | with_reducible refine w_notT ?_
  | with_reducible refine w_un ?_
  | with_reducible refine w_if ?_
  | with_reducible refine w_mut ?_
  | with_reducible refine w_dnew ?_
  | with_reducible refine w_dget ?_
  | with_reducible refine w_dget1 ?_
  | with_reducible refine w_dIn ?_
  | with_reducible refine w_dNotIn ?_
  | with_reducible refine w_items ?_
  | with_reducible refine w_revL ?_
  | with_reducible refine w_fmt ?_
  | with_reducible refine w_join ?_
  | with_reducible refine w_fldS ?_
  | ((with_reducible refine w_tupC (ds := ?ds) ?hd ?_); (case hd => rfl))
  | with_reducible refine w_caN .no (fun _ _ => .nil) ?_
  | ((with_reducible refine w_caN (ces := ?ces) .no ?hd ?_); (case hd => fail "zcv"))
  | ((with_reducible refine w_meA .no ?hd ?_); (case hd => fail "zcv"))
  | ((with_reducible refine w_mkN (ces := ?ces) .no ?hd ?_); (case hd => fail "zcv"))
  | ((with_reducible refine w_sup .no ?hd ?_); (case hd => fail "zcv"))
  | with_reducible refine w_prA ?_
  | with_reducible refine w_repl ?_
  | with_reducible refine w_atC ?_
  | with_reducible refine w_cint ?_
  | ((with_reducible refine w_ctup (ds := ?ds) ?hd ?_); (case hd => rfl))
  | with_reducible refine w_cm .no (fun _ _ => .nil) ?_
  | with_reducible refine w_cm .as (fun _ _ => .nil) ?_
  | with_reducible refine w_con ?_
  | with_reducible refine w_disp ?_
  | with_reducible refine w_callx ?_
  | with_reducible refine w_caN .as (fun _ _ => .nil) ?_
  | ((with_reducible refine w_caN (ces := ?ces) .as ?hd ?_); (case hd => fail "zcv"))
  | ((with_reducible refine w_meA .as ?hd ?_); (case hd => fail "zcv"))
  | ((with_reducible refine w_mkN (ces := ?ces) .as ?hd ?_); (case hd => fail "zcv"))
  | ((with_reducible refine w_sup .as ?hd ?_); (case hd => fail "zcv"))
  | ((with_reducible refine w_xfG (xs := ?xs) (G0 := ?G0) ?hg ?hc ?_); (case hg => rfl); (case hc => rfl))))
local macro_rules | `(tactic| fail "zM") => `(tactic| ((with_reducible show WM _ _ _ _ _); first
  | with_reducible refine wm_lst ?_
  | with_reducible refine wm_op ?_
  | with_reducible refine wm_cb ?_
  | with_reducible refine wm_slice ?_
  | with_reducible refine wm_items ?_
  | with_reducible refine wm_any ?_))
local macro_rules | `(tactic| fail "zF") => `(tactic| ((with_reducible show Fr _ _ _ _ _); first
  | ((with_reducible refine fr0C ?h ?_); (case h => with_unfolding_all rfl))
  | ((with_reducible refine fr1C (m := ?m) ?hn ?hm ?he ?_); (case hn => rfl); (case hm => rfl); (case he => rfl))
  | ((with_reducible refine frRC (s := ?s) (es' := ?es9) (M' := ?M9) ?h1 ?h3 ?h4 ?h5 ?h6 ?_); (case h1 => (dsimp only [refsOf, List.set_cons_zero, List.set_cons_succ, List.take_succ_cons, List.take_zero, List.length_cons, List.length_nil, List.cons_append, List.nil_append, Nat.reduceAdd]; rfl)); (case h3 => rfl); (case h4 => rfl); (case h5 => ((try simp only [List.map_cons, List.map_nil, Ent.sel, List.idxOf_cons, List.set_cons_zero, List.set_cons_succ, List.cons_append, List.nil_append, List.take_succ_cons, List.take_zero, List.length_cons, List.length_nil, Nat.reduceBEq, BEq.rfl, cond_true, cond_false, Nat.reduceAdd]); rfl)); (case h6 => ((try simp only [selN, List.take_succ_cons, List.take_zero, List.cons_append, List.nil_append, List.length_cons, List.length_nil, Nat.reduceAdd, List.map_cons, List.map_nil, List.set_cons_zero, List.set_cons_succ, List.getElem?_cons_zero, List.getElem?_cons_succ, Option.getD_some]); rfl)))))
local macro_rules | `(tactic| fail "zA") => `(tactic| ((with_reducible show WA _ _ _ _ _); first
  | with_reducible refine wa_cons ?_
  | with_reducible refine wa_nil ?_))
local macro_rules | `(tactic| fail "zt") => `(tactic| ((with_reducible show WT _ _ _ _ _); first
  | with_reducible refine wt_test ?_
  | with_reducible refine wt_tru ?_
  | with_reducible refine wt_val ?_
  | with_reducible refine wt_and ?_
  | with_reducible refine wt_or ?_
  | with_reducible refine wt_not ?_
  | with_reducible refine wt_yes ?_))
local macro_rules | `(tactic| fail "zSl") => `(tactic| ((with_reducible show OS _ _ _ _ _ _ _); first
  | with_reducible refine l_str ?_ ?_
  | ((with_reducible refine l_to (ds := ?ds) ?h ?_ ?_); (case h => fail "zld"))
  | ((with_reducible refine l_last (ds := ?ds) ?h ?_); (case h => fail "zld"))
  | ((with_reducible refine l_from (ds := ?ds) ?h ?_ ?_); (case h => fail "zld"))
  | ((with_reducible refine l_list (ds := ?ds) ?h ?_); (case h => fail "zld"))))
local macro_rules | `(tactic| fail "zI") => `(tactic| ((with_reducible show WI _ _ _ _ _); first
  | with_reducible refine wi_str ?_
  | with_reducible refine wi_any ?_
  | with_reducible refine wi_tup ?_
  | with_reducible refine wi_range1 ?_
  | with_reducible refine wi_zipK ?_
  | with_reducible refine wi_enumK ?_
  | with_reducible refine wi_range2 ?_))
local macro_rules | `(tactic| fail "ztr") => `(tactic| ((with_reducible show ∃ k, Tru _ _ k ∧ _); first
  | with_reducible refine tr_b ?_
  | with_reducible refine tr_i ?_
  | with_reducible refine tr_n ?_
  | with_reducible refine tr_s ?_ ?_
  | with_reducible refine tr_l ?_
  | with_reducible refine tr_t ?_
  | with_reducible refine tr_w ?_
  | ((with_reducible refine tr_r (xs := ?xs) ?hm ?_); (case hm => rfl))
  | ((with_reducible refine tr_e (xs := ?xs) ?hm ?_); (case hm => rfl))))
local macro_rules | `(tactic| fail "zX") => `(tactic| ((with_reducible show Exists _); first
  | fail "ztr"
  | with_reducible refine wpk ?_
  | ((with_reducible refine ex_disp (ds := ?ds) ?h ?hl ?_); (case h => rfl); (case hl => rfl))
  | ((with_reducible refine ex_subN (ds := ?ds) (j := ?j) (M' := ?M9) ?hm ?hj ?hM ?_); (case hm => rfl); (case hj => first | rfl | (refine ixN_lit ?h0 ?h1; (case h0 => decide); (case h1 => (simp only [List.length_cons, List.length_map, List.length_append, List.length_nil]; omega)))); (case hM => fail "zdm"))
  | ((with_reducible refine fl_r (C := ?C) (fs := ?fs) (e := ?e) ?hm ?_ ?hl ?_); (case hm => rfl); (case hl => fail "zlk"))
  | ((with_reducible refine fs_new (C := ?C) (fs := ?fs) (M' := ?M9) ?hm ?_ ?hl ?hn ?hM ?_); (case hm => rfl); (case hl => rfl); (case hn => kernel_rfl); (case hM => (dsimp only [List.set_cons_zero, List.set_cons_succ, List.cons_append, List.nil_append]; rfl)))
  | with_reducible refine ex_rg1 ?_ ?_ ?_
  | with_reducible refine ex_rg2 ?_ ?_ ?_ ?_ ?_
  | ((with_reducible refine ex_ld (ds := ?ds) ?hl ?_); (case hl => fail "zld"))
  | ((with_reducible refine dk_notIn (kds := ?kds) ?hm ?_); (case hm => rfl))
  | ((with_reducible refine dk_isIn (kds := ?kds) ?hm ?_); (case hm => rfl))
  | ((with_reducible refine dk_getR (kds := ?kds) (d := ?d) ?hm ?hg ?_); (case hm => rfl); (case hg => first | with_reducible assumption | rfl))
  | ((with_reducible refine dk_put (kds := ?kds) ?hm ?_ ?_); (case hm => rfl))
  | ((with_reducible refine dk_any (kds := ?kds) ?hm ?_); (case hm => rfl))
  | ((with_reducible refine dk_key2 ?hm ?_); (case hm => rfl))
  | ((with_reducible refine dk_key (kds := ?kds) ?hm ?_); (case hm => rfl))
  | ((with_reducible refine dk_get1 (kds := ?kds) ?hm ?_); (case hm => rfl))
  | with_reducible refine tab_t ?_
  | with_reducible refine tab_f ?_
  | with_reducible refine tab_n ?_
  | ((with_reducible refine me_one (C := ?C) (fs := ?fs) ?ho ?hl ?_); (case ho => (refine OV.r ?_; rfl)); (case hl => rfl))
  | with_reducible refine ex_fmtS ?_ ?_
  | with_reducible refine ex_fmtI ?_ ?_
  | with_reducible refine Exists.intro _ (And.intro (Eq.refl _) ?_)))
local macro_rules | `(tactic| fail "zN") => `(tactic| ((with_reducible show And _ _); first
  | ((with_reducible refine ex_kw (args := ?args) ?h1 ?h2 ?h3 ?_); (case h1 => rfl); (case h2 => rfl); (case h3 => (simp only [perm, List.nil_append, List.cons_append, List.append_nil, List.filterMap_cons, List.filterMap_nil, List.getElem?_cons_zero, List.getElem?_cons_succ]; rfl)))
  | ((with_reducible refine ex_me (args := ?args) ?h1 ?h2 ?h3 ?_); (case h1 => rfl); (case h2 => rfl); (case h3 => (simp only [perm, List.nil_append, List.cons_append, List.append_nil, List.filterMap_cons, List.filterMap_nil, List.getElem?_cons_zero, List.getElem?_cons_succ]; rfl)))
  | with_reducible refine ex_s ?_
  | with_reducible refine ty_s ?_
  | with_reducible refine ty_l ?_
  | ((with_reducible refine ty_r (ds := ?ds) ?hm ?_); (case hm => rfl))
  | ((with_reducible refine ty_e (es := ?es) ?hm ?_); (case hm => rfl))
  | ((with_reducible refine ex_lm ?hl ?_); (case hl => rfl))
  | ((with_reducible refine ex_look (e := ?e) ?hl ?_); (case hl => fail "zlk"))
  | with_reducible refine wj_and ?_ ?_
  | with_reducible refine And.intro (Eq.refl _) ?_
  | ((with_reducible refine And.intro (fun hb => ?_) (fun hb => ?_)) <;> ((try simp only [isN_oit, isN_oif, Bool.not_eq_true', Bool.not_eq_false'] at hb); (try ((have h9 : _ = (none : Option _) := hb); subst h9)); (try ((rcases (show IsSm _ from hb) with ⟨w9, h9⟩); subst h9)); (try simp only [isN, Bool.not_eq_true', Bool.not_eq_false', decide_eq_true_eq, decide_eq_false_iff_not, Bool.true_eq_false, Bool.false_eq_true, Bool.not_true, Bool.not_false, bne_iff_ne, ne_eq, bne_eq_false_iff_eq, Decidable.not_not] at hb); (try (exfalso; first | (with_reducible contradiction) | omega; done))))))
local macro_rules | `(tactic| fail "zfr") => `(tactic| first
  | with_reducible refine fr0_d ?_
  | ((with_reducible refine fr1_d ?h ?_); (case h => rfl))
  | ((with_reducible refine fr0_new ?h ?_); (case h => rfl))
  | ((with_reducible refine fr1_new ?h1 ?h2 ?_); (case h1 => rfl); (case h2 => rfl))
  | ((with_reducible refine fin_dbN (M' := ?M9) ?h1 ?h2 ?h3 ?_); (case h1 => rfl); (case h2 => rfl); (case h3 => fail "zdm"))
  | ((with_reducible refine fin_rbN (m := ?m) (M' := ?M9) ?h0 ?h1 ?h2 ?h3 ?h4 ?_); (case h0 => rfl); (case h1 => rfl); (case h2 => rfl); (case h3 => rfl); (case h4 => fail "zdm"))
  | ((with_reducible refine frN_d (M' := ?M9) ?h0 ?h ?_); (case h0 => rfl); (case h => ((try simp only [mergeN, putM, List.set_cons_zero, List.set_cons_succ, List.length_cons, List.length_nil, List.drop_succ_cons, List.drop_zero, List.drop_nil, List.append_nil, List.cons_append, List.nil_append, Nat.reduceAdd]); rfl)))
  | with_reducible refine fx0_0 ?_
  | with_reducible refine fx0_1 ?_
  | ((with_reducible refine fx1_0 ?h ?_); (case h => rfl))
  | ((with_reducible refine fx1_1 ?h ?_); (case h => rfl))
  | ((with_reducible refine finX_N (M' := ?M9) ?h1 ?h2 ?h3 ?h4 ?_); (case h1 => rfl); (case h2 => rfl); (case h3 => rfl); (case h4 => fail "zdm")))
local macro_rules | `(tactic| fail "zr") => `(tactic| first
  | with_reducible refine wo_some ?_
  | with_reducible refine wo_none ?_
  | ((with_reducible refine l_listM (ds := ?ds) ?h ?_); (case h => fail "zld"))
  | with_reducible refine g_name ?_
  | with_reducible refine g_sub ?_
  | with_reducible refine wj_cons ?_
  | with_reducible refine wj_nil ?_
  | ((with_reducible refine g_tup (n := ?n) ?h ?_); (case h => rfl); (try simp only [List.map_cons, List.map_nil]))
  | with_reducible refine gs_cons ?_
  | with_reducible refine gs_nil ?_
  | with_reducible refine o_neg ?_
  | with_reducible refine wp_nil ?_
  | with_reducible refine wp_cons ?_
  | with_reducible refine fm_s ?_ ?_
  | with_reducible refine fm_i ?_ ?_
  | ((with_reducible refine su_one (x := ?x) (fs := ?fs) ?hg ?ho ?_); (case hg => rfl); (case ho => (refine OV.r ?_; rfl)))
  | with_reducible refine ex_repl ?_ ?_
  | ((with_reducible refine ex_cm (args := ?args) ?h1 ?h3 ?_); (case h1 => rfl); (case h3 => (simp only [perm, List.nil_append, List.cons_append, List.append_nil, List.filterMap_cons, List.filterMap_nil, List.getElem?_cons_zero, List.getElem?_cons_succ]; rfl)))
  | with_reducible refine ex_zip ?_
  | with_reducible refine ex_enum ?_
  | ((with_reducible refine n_isXG (xs := ?xs) (G0 := ?G0) (D := ?D) (C := ?C) (b := ?b) ?hg ?hc ?hm ?hv ?_); (case hg => rfl); (case hc => rfl); (case hm => (refine tabm_0 ?h1 ?h2; (case h1 => rfl); (case h2 => rfl))); (case hv => rfl))
  | ((with_reducible refine n_isXTG (xs := ?xs) (G0 := ?G0) (D := ?D) (y := ?y) (b := ?b) ?hg ?hc ?hm ?hv ?_); (case hg => rfl); (case hc => rfl); (case hm => (refine tabm_0 ?h1 ?h2; (case h1 => rfl); (case h2 => rfl))); (case hv => rfl)))
local macro_rules | `(tactic| fail "znd") => `(tactic| first
  | ((with_reducible show Nd.rt _ _ _); (with_reducible refine nd_rtN (M' := ?M9) ?h2 ?_); (case h2 => fail "zdm"))
  | ((with_reducible show Nd.nx _ _ _); (with_reducible refine nd_nxN (Γ' := ?G9) (M' := ?M9) ?h1 ?h2 ?_); (case h1 => fail "zdm"); (case h2 => fail "zdm"))
  | ((with_reducible show Nd.ct _ _ _); (with_reducible refine nd_ctN (Γ' := ?G9) (M' := ?M9) ?h1 ?h2 ?_); (case h1 => fail "zdm"); (case h2 => fail "zdm"))
  | ((with_reducible show Nd.bk _ _ _); (with_reducible refine nd_bkN (Γ' := ?G9) (M' := ?M9) ?h1 ?h2 ?_); (case h1 => fail "zdm"); (case h2 => fail "zdm")))
-- one step
local macro_rules | `(tactic| fail "z1") => `(tactic| first
  | fail "zW"
  | fail "zA"
  | fail "zo"
  | fail "zS"
  | fail "zt"
  | fail "zF"
  | ((with_reducible refine ct_mk ?_); focus fail "zk")
  | fail "znd"
  | fail "zn"
  | fail "zm")
local macro_rules | `(tactic| fail "zq") => `(tactic| with_reducible first
  | show (_ : Nat) ≤ _
  | show (_ : Nat) < _
  | show (_ : Int) ≤ _
  | show (_ : Int) < _)
local macro_rules | `(tactic| fail "z2") => `(tactic| first
  | with_reducible assumption
  | fail "zX"
  | fail "zN"
  | fail "zfr"
  | fail "zI"
  | fail "zSl"
  | fail "zr"
  | fail "zM"
  | fail "zoM"
  | fail "znM"
  | unhygienic fail "zx"
  | ((with_reducible refine And.intro (fun hb => ?_) ?_) <;> (try (exfalso; omega; done)))
  | with_reducible intro _)
local macro_rules | `(tactic| fail "z") => `(tactic| first
  | ((with_reducible refine Stp.go ?_); (repeat (with_reducible refine Stp.go ?_)); fail "z")
  | ((with_reducible refine SideC.mk ?_ ?_) <;> fail "z")
  | (fail "z1" <;> fail "z")
  | (fail "zq"; first | (fail "zs"; done) | skip)
  | (fail "z2" <;> fail "z")
  | (fail "zs"; done)
  | skip)
local macro_rules | `(tactic| unhygienic fail "zx") => `(tactic| first
  | ((with_reducible refine fl_makeD (e := ?e) ?hl ?_); (case hl => (dsimp only [makeF]; fail "zlk")))
  | ((with_reducible refine fl_dirD (e := ?e) ?hl ?_); (case hl => (dsimp only [dirF]; fail "zlk")))
  | ((with_reducible refine mk_makeD0 (r := ?r) (N := ?M9) ?h1 ?h3 ?h4 ?_); (case h1 => rfl); (case h3 => rfl); (case h4 => fail "zdm"))
  | ((with_reducible refine mk_makeD1 (r := ?r) (N := ?M9) ?h1 ?h3 ?h4 ?_); (case h1 => rfl); (case h3 => rfl); (case h4 => fail "zdm"))
  | ((with_reducible refine mk_makeD2 (r := ?r) (N := ?M9) ?h1 ?h3 ?h4 ?_); (case h1 => rfl); (case h3 => rfl); (case h4 => fail "zdm"))
  | ((with_reducible refine me_makeD ?_ ?_ ?_)))
local macro_rules | `(tactic| unhygienic fail "zx") => `(tactic| ((with_reducible refine me_makeS ?hl ?h0 ?h1); (case hl => rfl); (case' h0 => intro hw9; try (exfalso; first | (with_reducible contradiction) | omega; done)); (case' h1 => intro hw9; try (exfalso; first | (with_reducible contradiction) | omega; done))))
local macro_rules | `(tactic| unhygienic fail "zx") => `(tactic| first
  | ((with_reducible refine fl_kindD (e := ?e) ?hl ?_); (case hl => (dsimp only [kindF]; fail "zlk")))
  | ((with_reducible refine mk_kindD (r := ?r) (N := ?M9) ?h1 ?h3 ?h4 ?_); (case h1 => rfl); (case h3 => rfl); (case h4 => fail "zdm"))
  | ((with_reducible refine me_kindD ?hl ?_); (case hl => rfl)))
local macro_rules | `(tactic| unhygienic fail "zx") => `(tactic| first
  | ((with_reducible refine fl_clockD (e := ?e) ?hl ?_); (case hl => (dsimp only [clockF]; fail "zlk")))
  | ((with_reducible refine mk_clockD (r := ?r) (N := ?M9) ?h1 ?h3 ?h4 ?_); (case h1 => rfl); (case h3 => rfl); (case h4 => fail "zdm"))
  | (with_reducible refine pr_clockD ?_)
  | ((with_reducible refine me_clockD ?hl ?_); (case hl => rfl)))
local macro_rules | `(tactic| unhygienic fail "zx") => `(tactic| first
  | ((with_reducible refine fl_setD (e := ?e) ?hl ?_); (case hl => (dsimp only [setF]; fail "zlk")))
  | ((with_reducible refine mk_setD (r := ?r) (N := ?M9) ?h1 ?h3 ?h4 ?_); (case h1 => rfl); (case h3 => rfl); (case h4 => fail "zdm"))
  | (with_reducible refine pr_setD ?_)
  | ((with_reducible refine me_setD ?hl ?_); (case hl => rfl)))
local macro_rules | `(tactic| fail "zo") => `(tactic| ((with_reducible show O2 _ (rIx _) _ _ _ _); ((with_reducible refine o_ixOi (ds := ?ds) (os := ?os) ?hl ?h ?hn ?_ ?_ ?_); (case hl => fail "zld"); (case h => rfl); (case hn => rfl))))
local macro_rules | `(tactic| fail "zoAdd") => `(tactic| ((with_reducible show O2 _ (rAddU _) _ _ _ _); with_reducible refine o_catT (by simp) (by rw [sizeLine]; simp) ?_))
local macro_rules | `(tactic| fail "zoEq") => `(tactic| ((with_reducible show O2 _ (rEqU _) _ _ _ _); ((with_reducible refine o_eqFT ?ha ?hb ?_); (case ha => first | with_reducible assumption | rfl); (case hb => first | with_reducible assumption | rfl))))
local macro_rules | `(tactic| fail "zSl") => `(tactic| ((with_reducible show OS _ _ _ _ _ _ _); ((with_reducible refine l_tupC ?hn ?_); (case hn => exact fun h => Nat.noConfusion (show 1 = 0 from h.1)))))
local macro_rules | `(tactic| fail "zW") => `(tactic| ((with_reducible show Wx _ _ _ _ _); ((with_reducible refine w_isXT (xs := ?xs) (G0 := ?G0) (D := ?D) (b := ?b) ?hg ?hc ?hm ?hz ?_); (case hg => rfl); (case hc => rfl); (case hm => (refine tabm_0 ?h1 ?h2; (case h1 => rfl); (case h2 => rfl))); (case hz => simp))))

section
variable {w : World} {K : PySem.W.Frag} {mg : Str → Option Value} {base : Heap}
def c_consists_of (K : PySem.W.Frag) : ASp := fun es M Q X => ∃ (text : Str), ∃ (signs : Str), es = [.d (.str text), .d (.str signs)] ∧ M = [] ∧ (text.length ≤ 100000) ∧ (Q (.d (.bool (allIn text signs))) [])
theorem k_consists_of {K : PySem.W.Frag} {text : Str} {signs : Str} {Q : Ent → Ms → Prop} {X : Xa} (h1 : text.length ≤ 100000) (q_ : Q (.d (.bool (allIn text signs))) []) : c_consists_of K [.d (.str text), .d (.str signs)] [] Q X := ⟨text, signs, rfl, rfl, h1, q_⟩
theorem sc_consists_of : FnScope ["text", "signs", "sign"] ["text", "signs"] (defScope (topS 4)) := ⟨rfl, rfl, rfl, by decide +kernel, rfl, by decide +kernel, by decide +kernel⟩
theorem ca_consists_of (T : Top fa fn K mg) : Ca P w K mg base CX0 "consists_of" (topS 4) 1 ["text", "signs"] (c_consists_of K) := by
  have sc := sc_consists_of
  refine ca_of T 0 1 rfl rfl (fun _ _ _ _ _ _ us hl => by exact match us, hl with | [_, _], _ => rfl) fun fd F => fn_ok F sc (fun es M Q X h => ?_) fun cdv A outer s H E hr => ⟨_, (pss_one (ps_ret (pe_callB (kAll (K := K) rfl rfl) (by rfl) (T.free 0 rfl) (by decide +kernel) (pa_cons (pe_lc (own := [("sign", 2)]) (g := (gName 2)) (tt := tYes) rfl sc.nd (pi_str (pv 0)) (blkOk_by (own := [("sign", 2)]) (N := ["text", "signs", "sign"]) (sc := defScope (topS 4)) (by decide +kernel)) (fun _ _ _ _ _ => (pg_name (i := 2) sc.nd rfl (Or.inl rfl))) (fun _ _ _ _ _ => pts_nil) (fun _ _ _ _ _ => (pe_cmpR (kIn (K := K) rfl) (pv 2) (pv 1) (by rfl)))) pa_nil)))), fun es M Q X h => ?_⟩
  · obtain ⟨text, signs, rfl, rfl, h1, k⟩ := h
    all_goals rfl
  · obtain ⟨text, signs, rfl, rfl, h1, k⟩ := h
    all_goals try simp only [cx_K, cx_Kx]
    all_goals fail "zg"
    fail "z"
    refine w_lcf (cs text) (fun c => Ent.d (.str ⟨#[c]⟩)) (fun _ => true) (fun c => .bool (decide (c ∈ cs signs))) (wp_name (by simp)) ?_
    fail "z"
    refine ⟨sg_map text, rfl, by rw [← len_cs]; exact Nat.le_trans h1 (by decide), trivial, fun x _ => ?_, ?_⟩
    · fail "z"
    · fail "z"
      rw [List.filter_eq_self.mpr (fun _ _ => rfl)]
      have e : (cs text).map (fun c => PyData.bool (decide (c ∈ cs signs))) = ((cs text).map fun c => decide (c ∈ cs signs)).map PyData.bool := by rw [List.map_map]; rfl
      rw [e]
      fail "z"
      refine q_of k ?_ rfl
      rw [List.all_map]
      rfl
local macro_rules | `(tactic| focus fail "zk") => `(tactic| with_reducible refine k_consists_of ?_ ?_)
def c_list_elements (K : PySem.W.Frag) : ASp := fun es M Q X => ∃ (text : Str), es = [.d (.str text)] ∧ M = [] ∧ (text.length ≤ 100000) ∧ (Q (.d (.list ((wordsS text).map PyData.str))) [])
theorem k_list_elements {K : PySem.W.Frag} {text : Str} {Q : Ent → Ms → Prop} {X : Xa} (h1 : text.length ≤ 100000) (q_ : Q (.d (.list ((wordsS text).map PyData.str))) []) : c_list_elements K [.d (.str text)] [] Q X := ⟨text, rfl, rfl, h1, q_⟩
theorem sc_list_elements : FnScope ["text", "elements_found", "part_text", "element"] ["text"] (defScope (topS 5)) := ⟨rfl, rfl, rfl, by decide +kernel, rfl, by decide +kernel, by decide +kernel⟩
theorem ca_list_elements (T : Top fa fn K mg) : Ca P w K mg base CX0 "list_elements" (topS 5) 1 ["text"] (c_list_elements K) := by
  have sc := sc_list_elements
  refine ca_of T 1 2 rfl rfl (fun _ _ _ _ _ _ us hl => by exact match us, hl with | [_], _ => rfl) fun fd F => fn_ok F sc (fun es M Q X h => ?_) fun cdv A outer s H E hr => ⟨_, (pss_cons (ps_set (i := 1) sc.nd rfl (Or.inl rfl) (pe_mut (pe_lst pa_nil)))
      (pss_cons (ps_for PassesOwn.never rfl (ki_list (K := K) rfl (pe_m1 PySem.F.slot_str_split PySem.F.type_str_split mt_split (pv 0) pe_str)) (pg_name (i := 2) sc.nd rfl (Or.inl rfl)) (pss_cons (ps_set (i := 3) sc.nd rfl (Or.inl rfl) (pe_m1 PySem.F.slot_str_strip PySem.F.type_str_strip mt_stripChars (pv 2) pe_str))
      (pss_one (ps_if (pt_cmpR (kNe (K := K) rfl hr.units) (pv 3) pe_str (nomark _)) (pss_one (ps_expr (pe_bm PySem.F.plainAttrs_list PySem.F.slot_list_append PySem.F.type_list_append mt_append (pv 1) (pa_cons (pv 3) pa_nil)))) pss_nil))))
      (pss_one (ps_ret (pv 1))))), fun es M Q X h => ?_⟩
  · obtain ⟨text, rfl, rfl, h1, k⟩ := h
    all_goals rfl
  · obtain ⟨text, rfl, rfl, h1, k⟩ := h
    all_goals try simp only [cx_K, cx_Kx]
    all_goals fail "zg"
    fail "z"
    refine s_for ?_
    fail "z"
    refine ⟨fun i Γ' M' => (∃ v1 v2, Γ' = [some (.d (.str text)), some (.r 0), v1, v2]) ∧ M' = [some (.lst ((((Txt.split text ⟨#[44]⟩).take i).flatMap fun p => finish (cs p)).map PyData.str))], ⟨⟨_, _, rfl⟩, rfl⟩, fun _ _ _ _ _ => LD.d, ?_, ?_⟩
    · rintro i e Γ' M' he ⟨⟨v1, v2, rfl⟩, rfl⟩
      obtain ⟨d, hd, rfl⟩ := map_get he
      obtain ⟨p, hp, rfl⟩ := map_get hd
      have hp' : (Txt.split text ⟨#[44]⟩)[i]? = some p := hp
      have hi := (List.getElem?_eq_some_iff.mp hp').1
      have hl := split1_len (x := text) (s := 44) (by decide)
      have hpl := piece_len (s := 44) (by decide) (List.mem_of_getElem? hp')
      have hfl : ∀ l : List Str, (l.flatMap fun p => finish (cs p)).length ≤ l.length := by
        intro l
        induction l with
        | nil => exact Nat.le_refl _
        | cons q l ih =>
          have := finish_len (cs q)
          rw [List.flatMap_cons, List.length_append, List.length_cons]
          omega
      have hfl' := hfl ((Txt.split text ⟨#[44]⟩).take i)
      rw [List.length_take] at hfl'
      fail "z"
      · rename_i hb
        refine ⟨⟨_, _, rfl⟩, ?_⟩
        rw [take_succ hp', List.flatMap_append, List.flatMap_cons, List.flatMap_nil, finish_str, if_neg hb]
        simp
      · rename_i hb
        refine ⟨⟨_, _, rfl⟩, ?_⟩
        rw [take_succ hp', List.flatMap_append, List.flatMap_cons, List.flatMap_nil, finish_str, if_pos hb]
        simp
    · rintro Γ' M' ⟨⟨v1, v2, rfl⟩, rfl⟩
      rw [List.length_map, List.length_map, show Str.ofString "," = (⟨#[44]⟩ : Str) from rfl, List.take_length, split_words]
      fail "z"
      all_goals exact k
local macro_rules | `(tactic| focus fail "zk") => `(tactic| with_reducible refine k_list_elements ?_ ?_)
def c_is_allowed (K : PySem.W.Frag) : ASp := fun es M Q X => ∃ (number : Int), es = [.d (.int number)] ∧ M = [] ∧ (Q (.d (.bool (inR number))) [])
theorem k_is_allowed {K : PySem.W.Frag} {number : Int} {Q : Ent → Ms → Prop} {X : Xa}  (q_ : Q (.d (.bool (inR number))) []) : c_is_allowed K [.d (.int number)] [] Q X := ⟨number, rfl, rfl, q_⟩
theorem sc_is_allowed : FnScope ["number"] ["number"] (defScope (topS 22)) := ⟨rfl, rfl, rfl, by decide +kernel, rfl, by decide +kernel, by decide +kernel⟩
theorem ca_is_allowed (T : Top fa fn K mg) : Ca P w K mg base CX0 "is_allowed" (topS 22) 1 ["number"] (c_is_allowed K) := by
  have sc := sc_is_allowed
  refine ca_of T 2 4 rfl rfl (fun _ _ _ _ _ _ us hl => by exact match us, hl with | [_], _ => rfl) fun fd F => fn_ok F sc (fun es M Q X h => ?_) fun cdv A outer s H E hr => ⟨_, (pss_one (ps_ret (pe_chain op_leU op_leU pe_int (pv 0) (C8.pe_gc rfl (T.int 3 rfl))))), fun es M Q X h => ?_⟩
  · obtain ⟨number, rfl, rfl, k⟩ := h
    all_goals rfl
  · obtain ⟨number, rfl, rfl, k⟩ := h
    all_goals try simp only [cx_K, cx_Kx]
    all_goals fail "zg"
    fail "z"
    all_goals (refine q_of k ?_ rfl; unfold inR; simp_all; try omega)
local macro_rules | `(tactic| focus fail "zk") => `(tactic| with_reducible refine k_is_allowed  ?_)
def c_Kind_keep_field (K : PySem.W.Frag) : ASp := fun es M Q X => ∃ (r : KindR), es = [.d (kindD K r)] ∧ M = [] ∧ (RGood r) ∧ (Q (.d (.str (keepS r))) [])
theorem k_Kind_keep_field {K : PySem.W.Frag} {r : KindR} {Q : Ent → Ms → Prop} {X : Xa} (h1 : RGood r) (q_ : Q (.d (.str (keepS r))) []) : c_Kind_keep_field K [.d (kindD K r)] [] Q X := ⟨r, rfl, rfl, h1, q_⟩
theorem sc_Kind_keep_field : FnScope ["self", "written"] ["self"] (defScope (inClass (topS 24) 1)) := ⟨rfl, rfl, rfl, by decide +kernel, rfl, by decide +kernel, by decide +kernel⟩
theorem fk_Kind_keep_field {f : Addr} {fd : FuncData} (T : Top fa fn K mg) (F : FunD K "keep_field" "Kind.keep_field" (defArgs (inClass (topS 24) 1)) (defBody (inClass (topS 24) 1)) (defScope (inClass (topS 24) 1)) (([] : List He.Dv).map (He.Dv.v K)) (([] : List (Str × He.Dv)).map fun q => (q.1, q.2.v K)) f fd) : FnOk P w K mg base CX0 1 f fd ["self"] (spA K (c_Kind_keep_field K)) := by
  have sc := sc_Kind_keep_field
  refine fn_ok F sc (fun es M Q X h => ?_) fun cdv A outer s H E hr => ⟨_, (pss_cons (ps_set (i := 1) sc.nd rfl (Or.inl rfl) (pe_mut (pe_lst pa_nil)))
      (pss_cons (ps_join (ps_if (pt_cmpR op_isNotU (ke_fld (f := "lasts") (Cs := [He.ga K "Kind"]) (K := K) rfl (pv 0) (fo_cons (T.fact 5 rfl) (T.fact 13 rfl) fo_nil)) pe_non (nomark _)) (pss_one (ps_expr (pe_bm PySem.F.plainAttrs_list PySem.F.slot_list_append PySem.F.type_list_append mt_append (pv 1) (pa_cons (pe_join2 (.cons pe_str (.cons (pe_fmt (ke_fld (f := "lasts") (Cs := [He.ga K "Kind"]) (K := K) rfl (pv 0) (fo_cons (T.fact 5 rfl) (T.fact 13 rfl) fo_nil))) .nil))) pa_nil)))) pss_nil))
      (pss_cons (ps_join (ps_if (pt_cmpR op_isNotU (ke_fld (f := "shared_lasts") (Cs := [He.ga K "Kind"]) (K := K) rfl (pv 0) (fo_cons (T.fact 5 rfl) (T.fact 12 rfl) fo_nil)) pe_non (nomark _)) (pss_one (ps_expr (pe_bm PySem.F.plainAttrs_list PySem.F.slot_list_append PySem.F.type_list_append mt_append (pv 1) (pa_cons (pe_join2 (.cons pe_str (.cons (pe_fmt (ke_fld (f := "shared_lasts") (Cs := [He.ga K "Kind"]) (K := K) rfl (pv 0) (fo_cons (T.fact 5 rfl) (T.fact 12 rfl) fo_nil))) .nil))) pa_nil)))) pss_nil))
      (pss_cons (ps_join (ps_if (pt_cmpR op_gtU (ke_fld (f := "late") (Cs := [He.ga K "Kind"]) (K := K) rfl (pv 0) (fo_cons (T.fact 5 rfl) (T.fact 11 rfl) fo_nil)) pe_int (nomark _)) (pss_one (ps_expr (pe_bm PySem.F.plainAttrs_list PySem.F.slot_list_append PySem.F.type_list_append mt_append (pv 1) (pa_cons (pe_join2 (.cons pe_str (.cons (pe_fmt (ke_fld (f := "late") (Cs := [He.ga K "Kind"]) (K := K) rfl (pv 0) (fo_cons (T.fact 5 rfl) (T.fact 11 rfl) fo_nil))) .nil))) pa_nil)))) pss_nil))
      (pss_cons (ps_join (ps_if (pt_cmpR op_gtU (ke_fld (f := "on_error") (Cs := [He.ga K "Kind"]) (K := K) rfl (pv 0) (fo_cons (T.fact 5 rfl) (T.fact 10 rfl) fo_nil)) pe_int (nomark _)) (pss_one (ps_expr (pe_bm PySem.F.plainAttrs_list PySem.F.slot_list_append PySem.F.type_list_append mt_append (pv 1) (pa_cons (pe_join2 (.cons pe_str (.cons (pe_fmt (ke_fld (f := "on_error") (Cs := [He.ga K "Kind"]) (K := K) rfl (pv 0) (fo_cons (T.fact 5 rfl) (T.fact 10 rfl) fo_nil))) .nil))) pa_nil)))) pss_nil))
      (pss_cons (ps_join (ps_if (kt_tru (K := K) rfl (ke_fld (f := "strict") (Cs := [He.ga K "Kind"]) (K := K) rfl (pv 0) (fo_cons (T.fact 5 rfl) (T.fact 9 rfl) fo_nil)) (by intro _; rfl)) (pss_one (ps_expr (pe_bm PySem.F.plainAttrs_list PySem.F.slot_list_append PySem.F.type_list_append mt_append (pv 1) (pa_cons pe_str pa_nil)))) pss_nil))
      (pss_cons (ps_join (ps_if (kt_tru (K := K) rfl (ke_fld (f := "check") (Cs := [He.ga K "Kind"]) (K := K) rfl (pv 0) (fo_cons (T.fact 5 rfl) (T.fact 8 rfl) fo_nil)) (by intro _; rfl)) (pss_one (ps_expr (pe_bm PySem.F.plainAttrs_list PySem.F.slot_list_append PySem.F.type_list_append mt_append (pv 1) (pa_cons pe_str pa_nil)))) pss_nil))
      (pss_cons (ps_join (ps_if (kt_tru (K := K) rfl (ke_fld (f := "own") (Cs := [He.ga K "Kind"]) (K := K) rfl (pv 0) (fo_cons (T.fact 5 rfl) (T.fact 7 rfl) fo_nil)) (by intro _; rfl)) (pss_one (ps_expr (pe_bm PySem.F.plainAttrs_list PySem.F.slot_list_append PySem.F.type_list_append mt_append (pv 1) (pa_cons pe_str pa_nil)))) pss_nil))
      (pss_cons (ps_join (ps_if (kt_tru (K := K) rfl (ke_fld (f := "never") (Cs := [He.ga K "Kind"]) (K := K) rfl (pv 0) (fo_cons (T.fact 5 rfl) (T.fact 6 rfl) fo_nil)) (by intro _; rfl)) (pss_one (ps_expr (pe_bm PySem.F.plainAttrs_list PySem.F.slot_list_append PySem.F.type_list_append mt_append (pv 1) (pa_cons pe_str pa_nil)))) pss_nil))
      (pss_one (ps_ret (pe_m1 PySem.F.slot_str_join PySem.F.type_str_join (kJoin (K := K) rfl) pe_str (pv 1))))))))))))), fun es M Q X h => ?_⟩
  · obtain ⟨r, rfl, rfl, h1, k⟩ := h
    all_goals rfl
  · obtain ⟨r, rfl, rfl, h1, k⟩ := h
    all_goals try simp only [cx_K, cx_Kx, cxS_K, cxS_Kx]
    all_goals fail "zg"
    have zl0 : (Str.ofString "strict").length = 6 := by decide +kernel
    have zl1 : (Str.ofString "check").length = 5 := by decide +kernel
    have zl2 : (Str.ofString "own").length = 3 := by decide +kernel
    have zl3 : (Str.ofString "never").length = 5 := by decide +kernel
    have zl4 : (Str.ofString ", ").length = 2 := by decide +kernel
    have zl5 : (Str.ofString "lasts=").length = 6 := by decide +kernel
    have zl6 : (Str.ofString "shared-lasts=").length = 13 := by decide +kernel
    have zl7 : (Str.ofString "late=").length = 5 := by decide +kernel
    have zl8 : (Str.ofString "on-error=").length = 9 := by decide +kernel
    obtain ⟨g1, g2, g3, g4, g5, g6⟩ := id h1
    have o1 := opt_io g1
    have o2 := opt_io g2
    obtain ⟨o3, o3'⟩ := inR_iff.mp g3
    obtain ⟨o4, o4'⟩ := inR_iff.mp g4
    fail "z"
    refine s_join0 (fun Γ0 M0 Γ' M' => Γ' = upG Γ0 [] ∧ M' = [some (.lst ((upto r 1).map PyData.str))]) ?_ ?_
    · fail "z"
      · rename_i hb
        obtain ⟨w, hw⟩ := hb
        obtain ⟨w0, w1⟩ := o1 w hw
        have hp : upto r 1 = upto r 0 ++ [numP "lasts" w] := up_at (by decide) (show optP _ _ = _ by rw [hw]; rfl)
        have hsl := str_len w0 w1
        rw [hw]
        fail "z"
        all_goals first
          | exact log_num w0 w1
          | exact up_yes hp (fe_of _ (show Str.empty ++ Str.ofString "lasts=" = Str.ofString "lasts" ++ Str.ofString "=" by decide +kernel))
          | (simp only [len_app, len_empty, zl5, zl6, zl7, zl8]; rw [sizeLine]; omega)
          | (rw [sizeLine]; omega)
          | trace_state
      · rename_i hb
        exact up_no (r := r) (n := 0) (up_non (by decide) (show optP _ _ = _ by rw [hb]; rfl))
      all_goals trace_state
    · rintro Γ' M' ⟨rfl, rfl⟩
      fail "zg"
      have hul := upto_len r 1 (by decide)
      fail "z"
      refine s_join0 (fun Γ0 M0 Γ' M' => Γ' = upG Γ0 [] ∧ M' = [some (.lst ((upto r 2).map PyData.str))]) ?_ ?_
      · fail "z"
        · rename_i hb
          obtain ⟨w, hw⟩ := hb
          obtain ⟨w0, w1⟩ := o2 w hw
          have hp : upto r 2 = upto r 1 ++ [numP "shared-lasts" w] := up_at (by decide) (show optP _ _ = _ by rw [hw]; rfl)
          have hsl := str_len w0 w1
          rw [hw]
          fail "z"
          all_goals first
            | exact log_num w0 w1
            | exact up_yes hp (fe_of _ (show Str.empty ++ Str.ofString "shared-lasts=" = Str.ofString "shared-lasts" ++ Str.ofString "=" by decide +kernel))
            | (simp only [len_app, len_empty, zl5, zl6, zl7, zl8]; rw [sizeLine]; omega)
            | (rw [sizeLine]; omega)
            | trace_state
        · rename_i hb
          exact up_no (r := r) (n := 1) (up_non (by decide) (show optP _ _ = _ by rw [hb]; rfl))
        all_goals trace_state
      · rintro Γ' M' ⟨rfl, rfl⟩
        fail "zg"
        have hul := upto_len r 2 (by decide)
        fail "z"
        refine s_join0 (fun Γ0 M0 Γ' M' => Γ' = upG Γ0 [] ∧ M' = [some (.lst ((upto r 3).map PyData.str))]) ?_ ?_
        · fail "z"
          all_goals have w0 := o3
          all_goals have w1 := o3'
          all_goals have hsl := str_len w0 w1
          all_goals first
            | exact log_num w0 w1
            | (rename_i hb; exact up_no (r := r) (n := 2) (up_non (by decide) (show posP _ _ = _ from if_neg hb)))
            | (rename_i hb; exact up_yes (r := r) (n := 2) (up_at (by decide) (show posP _ _ = _ from if_pos hb)) (fe_of _ (show Str.empty ++ Str.ofString "late=" = Str.ofString "late" ++ Str.ofString "=" by decide +kernel)))
            | (simp only [len_app, len_empty, zl5, zl6, zl7, zl8]; rw [sizeLine]; omega)
            | (rw [sizeLine]; omega)
            | trace_state
        · rintro Γ' M' ⟨rfl, rfl⟩
          fail "zg"
          have hul := upto_len r 3 (by decide)
          fail "z"
          refine s_join0 (fun Γ0 M0 Γ' M' => Γ' = upG Γ0 [] ∧ M' = [some (.lst ((upto r 4).map PyData.str))]) ?_ ?_
          · fail "z"
            all_goals have w0 := o4
            all_goals have w1 := o4'
            all_goals have hsl := str_len w0 w1
            all_goals first
              | exact log_num w0 w1
              | (rename_i hb; exact up_no (r := r) (n := 3) (up_non (by decide) (show posP _ _ = _ from if_neg hb)))
              | (rename_i hb; exact up_yes (r := r) (n := 3) (up_at (by decide) (show posP _ _ = _ from if_pos hb)) (fe_of _ (show Str.empty ++ Str.ofString "on-error=" = Str.ofString "on-error" ++ Str.ofString "=" by decide +kernel)))
              | (simp only [len_app, len_empty, zl5, zl6, zl7, zl8]; rw [sizeLine]; omega)
              | (rw [sizeLine]; omega)
              | trace_state
          · rintro Γ' M' ⟨rfl, rfl⟩
            fail "zg"
            have hul := upto_len r 4 (by decide)
            fail "z"
            refine s_join0 (fun Γ0 M0 Γ' M' => Γ' = upG Γ0 [] ∧ M' = [some (.lst ((upto r 5).map PyData.str))]) ?_ ?_
            · fail "z"
              all_goals first
                | (rename_i hb; exact up_no (r := r) (n := 4) (up_non (by decide) (show flgP _ _ = _ from if_neg (by rw [hb]; decide))))
                | (rename_i hb; exact up_yes (r := r) (n := 4) (up_at (by decide) (show flgP _ _ = _ from if_pos hb)) rfl)
                | (rw [List.length_map, sizeLine]; omega)
                | trace_state
            · rintro Γ' M' ⟨rfl, rfl⟩
              fail "zg"
              have hul := upto_len r 5 (by decide)
              fail "z"
              refine s_join0 (fun Γ0 M0 Γ' M' => Γ' = upG Γ0 [] ∧ M' = [some (.lst ((upto r 6).map PyData.str))]) ?_ ?_
              · fail "z"
                all_goals first
                  | (rename_i hb; exact up_no (r := r) (n := 5) (up_non (by decide) (show flgP _ _ = _ from if_neg (by rw [hb]; decide))))
                  | (rename_i hb; exact up_yes (r := r) (n := 5) (up_at (by decide) (show flgP _ _ = _ from if_pos hb)) rfl)
                  | (rw [List.length_map, sizeLine]; omega)
                  | trace_state
              · rintro Γ' M' ⟨rfl, rfl⟩
                fail "zg"
                have hul := upto_len r 6 (by decide)
                fail "z"
                refine s_join0 (fun Γ0 M0 Γ' M' => Γ' = upG Γ0 [] ∧ M' = [some (.lst ((upto r 7).map PyData.str))]) ?_ ?_
                · fail "z"
                  all_goals first
                    | (rename_i hb; exact up_no (r := r) (n := 6) (up_non (by decide) (show flgP _ _ = _ from if_neg (by rw [hb]; decide))))
                    | (rename_i hb; exact up_yes (r := r) (n := 6) (up_at (by decide) (show flgP _ _ = _ from if_pos hb)) rfl)
                    | (rw [List.length_map, sizeLine]; omega)
                    | trace_state
                · rintro Γ' M' ⟨rfl, rfl⟩
                  fail "zg"
                  have hul := upto_len r 7 (by decide)
                  fail "z"
                  refine s_join0 (fun Γ0 M0 Γ' M' => Γ' = upG Γ0 [] ∧ M' = [some (.lst ((upto r 8).map PyData.str))]) ?_ ?_
                  · fail "z"
                    all_goals first
                      | (rename_i hb; exact up_no (r := r) (n := 7) (up_non (by decide) (show flgP _ _ = _ from if_neg (by rw [hb]; decide))))
                      | (rename_i hb; exact up_yes (r := r) (n := 7) (up_at (by decide) (show flgP _ _ = _ from if_pos hb)) rfl)
                      | (rw [List.length_map, sizeLine]; omega)
                      | trace_state
                  · rintro Γ' M' ⟨rfl, rfl⟩
                    fail "zg"
                    have hul := upto_len r 8 (by decide)
                    fail "z"
                    
                    all_goals first
                      | (rw [zl4]; exact parts_sum h1)
                      | exact k
                      | trace_state
theorem cm_Kind_keep_field (T : Top fa fn K mg) : Cm P w K mg base CX0 ("Kind", some "keep_field") "keep_field" "Kind.keep_field" (inClass (topS 24) 1) (([] : List He.Dv).map (He.Dv.v K)) (([] : List (Str × He.Dv)).map fun q => (q.1, q.2.v K)) 1 ["self"] (c_Kind_keep_field K) := cm_of T 3 rfl fun fd F => fk_Kind_keep_field T F
local macro_rules | `(tactic| focus fail "zk") => `(tactic| with_reducible refine k_Kind_keep_field ?_ ?_)
def c_tells_lifetime (K : PySem.W.Frag) : ASp := fun es M Q X => ∃ (mkw : Nat), ∃ (mk : MakeR), ∃ (kd : KindR), es = [.d (makeD K mkw mk), .d (kindD K kd)] ∧ M = [] ∧ (Q (.d (.bool (tellsB mk kd))) [])
theorem k_tells_lifetime {K : PySem.W.Frag} {mkw : Nat} {mk : MakeR} {kd : KindR} {Q : Ent → Ms → Prop} {X : Xa}  (q_ : Q (.d (.bool (tellsB mk kd))) []) : c_tells_lifetime K [.d (makeD K mkw mk), .d (kindD K kd)] [] Q X := ⟨mkw, mk, kd, rfl, rfl, q_⟩
theorem sc_tells_lifetime : FnScope ["make", "kind"] ["make", "kind"] (defScope (topS 26)) := ⟨rfl, rfl, rfl, by decide +kernel, rfl, by decide +kernel, by decide +kernel⟩
theorem ca_tells_lifetime (T : Top fa fn K mg) : Ca P w K mg base CX0 "tells_lifetime" (topS 26) 1 ["make", "kind"] (c_tells_lifetime K) := by
  have sc := sc_tells_lifetime
  refine ca_of T 4 20 rfl rfl (fun _ _ _ _ _ _ us hl => by exact match us, hl with | [_, _], _ => rfl) fun fd F => fn_ok F sc (fun es M Q X h => ?_) fun cdv A outer s H E hr => ⟨_, (pss_one (ps_ret (ke_or (K := K) rfl (pe_cmpR op_isNotU (ke_fld (f := "lasts") (Cs := [He.ga K "Kind"]) (K := K) rfl (pv 1) (fo_cons (T.fact 5 rfl) (T.fact 13 rfl) fo_nil)) pe_non (nomark _)) (pe_one (ke_and (K := K) rfl (ke_fld (f := "shared") (Cs := [He.ga K "Make", He.ga K "StrictMake", He.ga K "OwnMake"]) (K := K) rfl (pv 0) (fo_cons (T.fact 18 rfl) (T.fact 19 rfl) (fo_cons (T.fact 16 rfl) (T.fact 17 rfl) (fo_cons (T.fact 14 rfl) (T.fact 15 rfl) fo_nil)))) (pe_one (pe_cmpR op_isNotU (ke_fld (f := "shared_lasts") (Cs := [He.ga K "Kind"]) (K := K) rfl (pv 1) (fo_cons (T.fact 5 rfl) (T.fact 12 rfl) fo_nil)) pe_non (nomark _)))))))), fun es M Q X h => ?_⟩
  · obtain ⟨mkw, mk, kd, rfl, rfl, k⟩ := h
    all_goals rfl
  · obtain ⟨mkw, mk, kd, rfl, rfl, k⟩ := h
    all_goals try simp only [cx_K, cx_Kx]
    all_goals fail "zg"
    unfold tellsB at k
    obtain ⟨la, sh, lt, oe, st, ck, ow, ne, mm, da, ma⟩ := kd
    dsimp only at *
    fail "z"
    all_goals first
      | exact k
      | (rename_i hb; refine q_of k ?_ rfl; rw [hb]; cases sh <;> rfl)
      | trace_state
local macro_rules | `(tactic| focus fail "zk") => `(tactic| with_reducible refine k_tells_lifetime  ?_)
def c_Clock___init__ (K : PySem.W.Frag) : ASp := fun es M Q X => ∃ (b : Int), ∃ (a : Int), es = [.r 0, .d (.int b), .d (.int a)] ∧ M = [some (.ins (He.ga K "Clock") [])] ∧ (0 ≤ b) ∧ (b ≤ 1000) ∧ (0 ≤ a) ∧ (a ≤ 1000) ∧ (Q (.d .none) [some (.ins (He.ga K "Clock") (clockF ⟨b, a⟩))])
theorem k_Clock___init__ {K : PySem.W.Frag} {b : Int} {a : Int} {Q : Ent → Ms → Prop} {X : Xa} (h1 : 0 ≤ b) (h2 : b ≤ 1000) (h3 : 0 ≤ a) (h4 : a ≤ 1000) (q_ : Q (.d .none) [some (.ins (He.ga K "Clock") (clockF ⟨b, a⟩))]) : c_Clock___init__ K [.r 0, .d (.int b), .d (.int a)] [some (.ins (He.ga K "Clock") [])] Q X := ⟨b, a, rfl, rfl, h1, h2, h3, h4, q_⟩
theorem sc_Clock___init__ : FnScope ["self", "behind", "ahead"] ["self", "behind", "ahead"] (defScope (inClass (topS 32) 0)) := ⟨rfl, rfl, rfl, by decide +kernel, rfl, by decide +kernel, by decide +kernel⟩
theorem fk_Clock___init__ {f : Addr} {fd : FuncData} (T : Top fa fn K mg) (F : FunD K "__init__" "Clock.__init__" (defArgs (inClass (topS 32) 0)) (defBody (inClass (topS 32) 0)) (defScope (inClass (topS 32) 0)) (([(He.Dv.int (0)), (He.Dv.int (0))] : List He.Dv).map (He.Dv.v K)) (([] : List (Str × He.Dv)).map fun q => (q.1, q.2.v K)) f fd) : FnOk P w K mg base CX0 1 f fd ["self", "behind", "ahead"] (spA K (c_Clock___init__ K)) := by
  have sc := sc_Clock___init__
  refine fn_ok F sc (fun es M Q X h => ?_) fun cdv A outer s H E hr => ⟨_, (pss_cons (ps_if (pt_not (pt_chain op_leU op_leU pe_int (pv 1) (C8.pe_gc rfl (T.int 24 rfl)))) (pss_one Z.ps_never) pss_nil)
      (pss_cons (ps_if (pt_not (pt_chain op_leU op_leU pe_int (pv 2) (C8.pe_gc rfl (T.int 24 rfl)))) (pss_one Z.ps_never) pss_nil)
      (pss_cons (ks_fld (f := "behind") (Cs := [He.ga K "Clock"]) (K := K) rfl (pv 0) (pv 1) (fo_cons (T.fact 21 rfl) (T.fact 23 rfl) fo_nil))
      (pss_one (ks_fld (f := "ahead") (Cs := [He.ga K "Clock"]) (K := K) rfl (pv 0) (pv 2) (fo_cons (T.fact 21 rfl) (T.fact 22 rfl) fo_nil)))))), fun es M Q X h => ?_⟩
  · obtain ⟨b, a, rfl, rfl, h1, h2, h3, h4, k⟩ := h
    all_goals rfl
  · obtain ⟨b, a, rfl, rfl, h1, h2, h3, h4, k⟩ := h
    all_goals try simp only [cx_K, cx_Kx, cxS_K, cxS_Kx]
    all_goals fail "zg"
    fail "z"
    all_goals first
      | exact k
      | (exfalso; omega)
      | trace_state
theorem cm_Clock___init__ (T : Top fa fn K mg) : Cm P w K mg base CX0 ("Clock", some "__init__") "__init__" "Clock.__init__" (inClass (topS 32) 0) (([(He.Dv.int (0)), (He.Dv.int (0))] : List He.Dv).map (He.Dv.v K)) (([] : List (Str × He.Dv)).map fun q => (q.1, q.2.v K)) 1 ["self", "behind", "ahead"] (c_Clock___init__ K) := cm_of T 5 rfl fun fd F => fk_Clock___init__ T F
local macro_rules | `(tactic| focus fail "zk") => `(tactic| with_reducible refine k_Clock___init__ ?_ ?_ ?_ ?_ ?_)
def c_Clock_span (K : PySem.W.Frag) : ASp := fun es M Q X => ∃ (slf : ClockR), es = [.d (clockD K slf)] ∧ M = [] ∧ (Q (.d (.int (slf.behind + slf.ahead))) [])
theorem k_Clock_span {K : PySem.W.Frag} {slf : ClockR} {Q : Ent → Ms → Prop} {X : Xa}  (q_ : Q (.d (.int (slf.behind + slf.ahead))) []) : c_Clock_span K [.d (clockD K slf)] [] Q X := ⟨slf, rfl, rfl, q_⟩
theorem sc_Clock_span : FnScope ["self"] ["self"] (defScope (inClass (topS 32) 1)) := ⟨rfl, rfl, rfl, by decide +kernel, rfl, by decide +kernel, by decide +kernel⟩
theorem fk_Clock_span {f : Addr} {fd : FuncData} (T : Top fa fn K mg) (F : FunD K "span" "Clock.span" (defArgs (inClass (topS 32) 1)) (defBody (inClass (topS 32) 1)) (defScope (inClass (topS 32) 1)) (([] : List He.Dv).map (He.Dv.v K)) (([] : List (Str × He.Dv)).map fun q => (q.1, q.2.v K)) f fd) : FnOk P w K mg base CX0 1 f fd ["self"] (spA K (c_Clock_span K)) := by
  have sc := sc_Clock_span
  refine fn_ok F sc (fun es M Q X h => ?_) fun cdv A outer s H E hr => ⟨_, (pss_one (ps_ret (pe_op (kAdd (K := K) rfl) (ke_fld (f := "behind") (Cs := [He.ga K "Clock"]) (K := K) rfl (pv 0) (fo_cons (T.fact 21 rfl) (T.fact 23 rfl) fo_nil)) (ke_fld (f := "ahead") (Cs := [He.ga K "Clock"]) (K := K) rfl (pv 0) (fo_cons (T.fact 21 rfl) (T.fact 22 rfl) fo_nil))))), fun es M Q X h => ?_⟩
  · obtain ⟨slf, rfl, rfl, k⟩ := h
    all_goals rfl
  · obtain ⟨slf, rfl, rfl, k⟩ := h
    all_goals try simp only [cx_K, cx_Kx, cxS_K, cxS_Kx]
    all_goals fail "zg"
    fail "z"
    all_goals exact k
theorem cr_Clock_span (T : Top fa fn K mg) : Cr P w K mg base CX0 ("Clock", some "span") "span" "Clock.span" (inClass (topS 32) 1) (([] : List He.Dv).map (He.Dv.v K)) (([] : List (Str × He.Dv)).map fun q => (q.1, q.2.v K)) 1 ["self"] (c_Clock_span K) := cr_of T 6 rfl fun fd F => fk_Clock_span T F
local macro_rules | `(tactic| focus fail "zk") => `(tactic| with_reducible refine k_Clock_span  ?_)
def c_Setting_hops (K : PySem.W.Frag) : ASp := fun es M Q X => ∃ (slf : SetR), es = [.d (setD K slf)] ∧ M = [] ∧ (slf.makes.length ≤ 1000) ∧ (Q (.d (.int (slf.makes.length : Int))) [])
theorem k_Setting_hops {K : PySem.W.Frag} {slf : SetR} {Q : Ent → Ms → Prop} {X : Xa} (h1 : slf.makes.length ≤ 1000) (q_ : Q (.d (.int (slf.makes.length : Int))) []) : c_Setting_hops K [.d (setD K slf)] [] Q X := ⟨slf, rfl, rfl, h1, q_⟩
theorem sc_Setting_hops : FnScope ["self"] ["self"] (defScope (inClass (topS 33) 1)) := ⟨rfl, rfl, rfl, by decide +kernel, rfl, by decide +kernel, by decide +kernel⟩
theorem fk_Setting_hops {f : Addr} {fd : FuncData} (T : Top fa fn K mg) (F : FunD K "hops" "Setting.hops" (defArgs (inClass (topS 33) 1)) (defBody (inClass (topS 33) 1)) (defScope (inClass (topS 33) 1)) (([] : List He.Dv).map (He.Dv.v K)) (([] : List (Str × He.Dv)).map fun q => (q.1, q.2.v K)) f fd) : FnOk P w K mg base CX0 1 f fd ["self"] (spA K (c_Setting_hops K)) := by
  have sc := sc_Setting_hops
  refine fn_ok F sc (fun es M Q X h => ?_) fun cdv A outer s H E hr => ⟨_, (pss_one (ps_ret (pe_callB (kLen (K := K) rfl) (by rfl) (T.free 25 rfl) (by decide +kernel) (pa_cons (ke_fld (f := "makes") (Cs := [He.ga K "Setting"]) (K := K) rfl (pv 0) (fo_cons (T.fact 26 rfl) (T.fact 27 rfl) fo_nil)) pa_nil)))), fun es M Q X h => ?_⟩
  · obtain ⟨slf, rfl, rfl, h1, k⟩ := h
    all_goals rfl
  · obtain ⟨slf, rfl, rfl, h1, k⟩ := h
    all_goals try simp only [cx_K, cx_Kx, cxS_K, cxS_Kx]
    all_goals fail "zg"
    fail "z"
    all_goals first
      | exact k
      | (refine q_of k ?_ rfl; simp; done)
      | trace_state
theorem cr_Setting_hops (T : Top fa fn K mg) : Cr P w K mg base CX0 ("Setting", some "hops") "hops" "Setting.hops" (inClass (topS 33) 1) (([] : List He.Dv).map (He.Dv.v K)) (([] : List (Str × He.Dv)).map fun q => (q.1, q.2.v K)) 1 ["self"] (c_Setting_hops K) := cr_of T 7 rfl fun fd F => fk_Setting_hops T F
local macro_rules | `(tactic| focus fail "zk") => `(tactic| with_reducible refine k_Setting_hops ?_ ?_)
def c_number_or_zero (K : PySem.W.Frag) : ASp := fun es M Q X => ∃ (number : Option Int), es = [.d (oi number)] ∧ M = [] ∧ (Q (.d (.int (number.getD 0))) [])
theorem k_number_or_zero {K : PySem.W.Frag} {number : Option Int} {Q : Ent → Ms → Prop} {X : Xa}  (q_ : Q (.d (.int (number.getD 0))) []) : c_number_or_zero K [.d (oi number)] [] Q X := ⟨number, rfl, rfl, q_⟩
theorem sc_number_or_zero : FnScope ["number"] ["number"] (defScope (topS 42)) := ⟨rfl, rfl, rfl, by decide +kernel, rfl, by decide +kernel, by decide +kernel⟩
theorem ca_number_or_zero (T : Top fa fn K mg) : Ca P w K mg base CX0 "number_or_zero" (topS 42) 1 ["number"] (c_number_or_zero K) := by
  have sc := sc_number_or_zero
  refine ca_of T 8 28 rfl rfl (fun _ _ _ _ _ _ us hl => by exact match us, hl with | [_], _ => rfl) fun fd F => fn_ok F sc (fun es M Q X h => ?_) fun cdv A outer s H E hr => ⟨_, (pss_one (ps_ret (pe_ifExp (pt_cmpR op_isV (pv 0) pe_non (nomark _)) pe_int (pv 0)))), fun es M Q X h => ?_⟩
  · obtain ⟨number, rfl, rfl, k⟩ := h
    all_goals rfl
  · obtain ⟨number, rfl, rfl, k⟩ := h
    all_goals try simp only [cx_K, cx_Kx]
    all_goals fail "zg"
    cases number with
    | none =>
      fail "z"
      all_goals exact k
    | some v =>
      fail "z"
      all_goals exact k
local macro_rules | `(tactic| focus fail "zk") => `(tactic| with_reducible refine k_number_or_zero  ?_)
def c_Make___init__ (K : PySem.W.Frag) : ASp := fun es M Q X => ∃ (sh : Bool), ∃ (gr : Option Int), ∃ (eg : Int), ∃ (te : Bool), ∃ (da : Bool), ∃ (ch : Bool), ∃ (share : Int), ∃ (cap : Int), ∃ (du : Bool), ∃ (room : Int), ∃ (C : Addr), es = [.r 0, .d (.bool sh), .d (oi gr), .d (.int eg), .d (.bool te), .d (.bool da), .d (.bool ch), .d (.int share), .d (.int cap), .d (.bool du), .d (.int room)] ∧ M = [some (.ins C [])] ∧ (C ∈ [He.ga K "Make", He.ga K "StrictMake", He.ga K "OwnMake"]) ∧ (∀ g, gr = some g → 0 ≤ g) ∧ (0 ≤ eg) ∧ (0 ≤ share) ∧ (share ≤ 100) ∧ (0 ≤ cap) ∧ (1 ≤ room) ∧ (room ≤ 100) ∧ (Q (.d .none) [some (.ins C (makeF ⟨sh, gr, eg, te, da, ch, share, cap, du, room⟩))])
theorem k_Make___init__ {K : PySem.W.Frag} {sh : Bool} {gr : Option Int} {eg : Int} {te : Bool} {da : Bool} {ch : Bool} {share : Int} {cap : Int} {du : Bool} {room : Int} {C : Addr} {Q : Ent → Ms → Prop} {X : Xa} (h1 : C ∈ [He.ga K "Make", He.ga K "StrictMake", He.ga K "OwnMake"]) (h2 : ∀ g, gr = some g → 0 ≤ g) (h3 : 0 ≤ eg) (h4 : 0 ≤ share) (h5 : share ≤ 100) (h6 : 0 ≤ cap) (h7 : 1 ≤ room) (h8 : room ≤ 100) (q_ : Q (.d .none) [some (.ins C (makeF ⟨sh, gr, eg, te, da, ch, share, cap, du, room⟩))]) : c_Make___init__ K [.r 0, .d (.bool sh), .d (oi gr), .d (.int eg), .d (.bool te), .d (.bool da), .d (.bool ch), .d (.int share), .d (.int cap), .d (.bool du), .d (.int room)] [some (.ins C [])] Q X := ⟨sh, gr, eg, te, da, ch, share, cap, du, room, C, rfl, rfl, h1, h2, h3, h4, h5, h6, h7, h8, q_⟩
theorem sc_Make___init__ : FnScope ["self", "shared", "grace", "error_grace", "tells", "dates", "checks", "share", "cap", "durable", "room"] ["self", "shared", "grace", "error_grace", "tells", "dates", "checks", "share", "cap", "durable", "room"] (defScope (inClass (topS 43) 1)) := ⟨rfl, rfl, rfl, by decide +kernel, rfl, by decide +kernel, by decide +kernel⟩
theorem fk_Make___init__ {f : Addr} {fd : FuncData} (T : Top fa fn K mg) (F : FunD K "__init__" "Make.__init__" (defArgs (inClass (topS 43) 1)) (defBody (inClass (topS 43) 1)) (defScope (inClass (topS 43) 1)) (([] : List He.Dv).map (He.Dv.v K)) (([("shared", He.Dv.bl true), ("grace", He.Dv.int (0)), ("error_grace", He.Dv.int (0)), ("tells", He.Dv.bl true), ("dates", He.Dv.bl false), ("checks", He.Dv.bl true), ("share", He.Dv.int (0)), ("cap", He.Dv.int (0)), ("durable", He.Dv.bl false), ("room", He.Dv.int (8))] : List (Str × He.Dv)).map fun q => (q.1, q.2.v K)) f fd) : FnOk P w K mg base CX0 1 f fd ["self", "shared", "grace", "error_grace", "tells", "dates", "checks", "share", "cap", "durable", "room"] (spA K (c_Make___init__ K)) := by
  have sc := sc_Make___init__
  refine fn_ok F sc (fun es M Q X h => ?_) fun cdv A outer s H E hr => ⟨_, (pss_cons (ps_if (PW.pt (pw_and (pt_cmpR op_isNotU (pv 2) pe_non (nomark _)) (pw_and1 (pt_cmpR op_ltU (pv 2) pe_int (nomark _))))) (pss_one Z.ps_never) pss_nil)
      (pss_cons (ps_if (pt_cmpR op_ltU (pv 3) pe_int (nomark _)) (pss_one Z.ps_never) pss_nil)
      (pss_cons (ps_if (pt_not (pt_chain op_leU op_leU pe_int (pv 7) (C8.pe_gc rfl (T.int 57 rfl)))) (pss_one Z.ps_never) pss_nil)
      (pss_cons (ps_if (pt_cmpR op_ltU (pv 8) pe_int (nomark _)) (pss_one Z.ps_never) pss_nil)
      (pss_cons (ps_if (pt_not (pt_chain op_leU op_leU pe_int (pv 10) (C8.pe_gc rfl (T.int 56 rfl)))) (pss_one Z.ps_never) pss_nil)
      (pss_cons (ks_fld (f := "shared") (Cs := [He.ga K "Make", He.ga K "StrictMake", He.ga K "OwnMake"]) (K := K) rfl (pv 0) (pv 1) (fo_cons (T.fact 18 rfl) (T.fact 19 rfl) (fo_cons (T.fact 16 rfl) (T.fact 17 rfl) (fo_cons (T.fact 14 rfl) (T.fact 15 rfl) fo_nil))))
      (pss_cons (ks_fld (f := "grace") (Cs := [He.ga K "Make", He.ga K "StrictMake", He.ga K "OwnMake"]) (K := K) rfl (pv 0) (pv 2) (fo_cons (T.fact 18 rfl) (T.fact 55 rfl) (fo_cons (T.fact 16 rfl) (T.fact 54 rfl) (fo_cons (T.fact 14 rfl) (T.fact 53 rfl) fo_nil))))
      (pss_cons (ks_fld (f := "error_grace") (Cs := [He.ga K "Make", He.ga K "StrictMake", He.ga K "OwnMake"]) (K := K) rfl (pv 0) (pv 3) (fo_cons (T.fact 18 rfl) (T.fact 52 rfl) (fo_cons (T.fact 16 rfl) (T.fact 51 rfl) (fo_cons (T.fact 14 rfl) (T.fact 50 rfl) fo_nil))))
      (pss_cons (ks_fld (f := "tells") (Cs := [He.ga K "Make", He.ga K "StrictMake", He.ga K "OwnMake"]) (K := K) rfl (pv 0) (pv 4) (fo_cons (T.fact 18 rfl) (T.fact 49 rfl) (fo_cons (T.fact 16 rfl) (T.fact 48 rfl) (fo_cons (T.fact 14 rfl) (T.fact 47 rfl) fo_nil))))
      (pss_cons (ks_fld (f := "dates") (Cs := [He.ga K "Make", He.ga K "StrictMake", He.ga K "OwnMake"]) (K := K) rfl (pv 0) (pv 5) (fo_cons (T.fact 18 rfl) (T.fact 46 rfl) (fo_cons (T.fact 16 rfl) (T.fact 45 rfl) (fo_cons (T.fact 14 rfl) (T.fact 44 rfl) fo_nil))))
      (pss_cons (ks_fld (f := "checks") (Cs := [He.ga K "Make", He.ga K "StrictMake", He.ga K "OwnMake"]) (K := K) rfl (pv 0) (pv 6) (fo_cons (T.fact 18 rfl) (T.fact 43 rfl) (fo_cons (T.fact 16 rfl) (T.fact 42 rfl) (fo_cons (T.fact 14 rfl) (T.fact 41 rfl) fo_nil))))
      (pss_cons (ks_fld (f := "share") (Cs := [He.ga K "Make", He.ga K "StrictMake", He.ga K "OwnMake"]) (K := K) rfl (pv 0) (pv 7) (fo_cons (T.fact 18 rfl) (T.fact 40 rfl) (fo_cons (T.fact 16 rfl) (T.fact 39 rfl) (fo_cons (T.fact 14 rfl) (T.fact 38 rfl) fo_nil))))
      (pss_cons (ks_fld (f := "cap") (Cs := [He.ga K "Make", He.ga K "StrictMake", He.ga K "OwnMake"]) (K := K) rfl (pv 0) (pv 8) (fo_cons (T.fact 18 rfl) (T.fact 37 rfl) (fo_cons (T.fact 16 rfl) (T.fact 36 rfl) (fo_cons (T.fact 14 rfl) (T.fact 35 rfl) fo_nil))))
      (pss_cons (ks_fld (f := "durable") (Cs := [He.ga K "Make", He.ga K "StrictMake", He.ga K "OwnMake"]) (K := K) rfl (pv 0) (pv 9) (fo_cons (T.fact 18 rfl) (T.fact 34 rfl) (fo_cons (T.fact 16 rfl) (T.fact 33 rfl) (fo_cons (T.fact 14 rfl) (T.fact 32 rfl) fo_nil))))
      (pss_one (ks_fld (f := "room") (Cs := [He.ga K "Make", He.ga K "StrictMake", He.ga K "OwnMake"]) (K := K) rfl (pv 0) (pv 10) (fo_cons (T.fact 18 rfl) (T.fact 31 rfl) (fo_cons (T.fact 16 rfl) (T.fact 30 rfl) (fo_cons (T.fact 14 rfl) (T.fact 29 rfl) fo_nil))))))))))))))))))), fun es M Q X h => ?_⟩
  · obtain ⟨sh, gr, eg, te, da, ch, share, cap, du, room, C, rfl, rfl, h1, h2, h3, h4, h5, h6, h7, h8, k⟩ := h
    all_goals rfl
  · obtain ⟨sh, gr, eg, te, da, ch, share, cap, du, room, C, rfl, rfl, h1, h2, h3, h4, h5, h6, h7, h8, k⟩ := h
    all_goals try simp only [cx_K, cx_Kx, cxS_K, cxS_Kx]
    all_goals fail "zg"
    cases gr with
    | none =>
      fail "z"
      all_goals exact k
    | some g =>
      have hg := h2 g rfl
      fail "z"
      all_goals exact k
theorem cm_Make___init__ (T : Top fa fn K mg) : Cm P w K mg base CX0 ("Make", some "__init__") "__init__" "Make.__init__" (inClass (topS 43) 1) (([] : List He.Dv).map (He.Dv.v K)) (([("shared", He.Dv.bl true), ("grace", He.Dv.int (0)), ("error_grace", He.Dv.int (0)), ("tells", He.Dv.bl true), ("dates", He.Dv.bl false), ("checks", He.Dv.bl true), ("share", He.Dv.int (0)), ("cap", He.Dv.int (0)), ("durable", He.Dv.bl false), ("room", He.Dv.int (8))] : List (Str × He.Dv)).map fun q => (q.1, q.2.v K)) 1 ["self", "shared", "grace", "error_grace", "tells", "dates", "checks", "share", "cap", "durable", "room"] (c_Make___init__ K) := cm_of T 9 rfl fun fd F => fk_Make___init__ T F
theorem cm_StrictMake___init__ (T : Top fa fn K mg) : Cm P w K mg base CX0 ("StrictMake", some "__init__") "__init__" "Make.__init__" (inClass (topS 43) 1) (([] : List He.Dv).map (He.Dv.v K)) (([("shared", He.Dv.bl true), ("grace", He.Dv.int (0)), ("error_grace", He.Dv.int (0)), ("tells", He.Dv.bl true), ("dates", He.Dv.bl false), ("checks", He.Dv.bl true), ("share", He.Dv.int (0)), ("cap", He.Dv.int (0)), ("durable", He.Dv.bl false), ("room", He.Dv.int (8))] : List (Str × He.Dv)).map fun q => (q.1, q.2.v K)) 1 ["self", "shared", "grace", "error_grace", "tells", "dates", "checks", "share", "cap", "durable", "room"] (c_Make___init__ K) := cm_of T 10 rfl fun fd F => fk_Make___init__ T F
theorem kS_Make___init__ {K : PySem.W.Frag} {sh : Bool} {eg : Int} {te da ch : Bool} {share cap : Int} {du : Bool} {room : Int} {C : Addr} {g : Int} {Q : Ent → Ms → Prop} {X : Xa} (h1 : C ∈ [He.ga K "Make", He.ga K "StrictMake", He.ga K "OwnMake"]) (h2 : 0 ≤ g) (h3 : 0 ≤ eg) (h4 : 0 ≤ share) (h5 : share ≤ 100) (h6 : 0 ≤ cap) (h7 : 1 ≤ room) (h8 : room ≤ 100) (q_ : Q (.d .none) [some (.ins C (makeF ⟨sh, (some g), eg, te, da, ch, share, cap, du, room⟩))]) : c_Make___init__ K [.r 0, .d (.bool sh), .d (.int g), .d (.int eg), .d (.bool te), .d (.bool da), .d (.bool ch), .d (.int share), .d (.int cap), .d (.bool du), .d (.int room)] [some (.ins C [])] Q X :=
  k_Make___init__ (gr := (some g)) h1 (fun g e => by cases e; exact h2) h3 h4 h5 h6 h7 h8 q_

theorem kN_Make___init__ {K : PySem.W.Frag} {sh : Bool} {eg : Int} {te da ch : Bool} {share cap : Int} {du : Bool} {room : Int} {C : Addr} {Q : Ent → Ms → Prop} {X : Xa} (h1 : C ∈ [He.ga K "Make", He.ga K "StrictMake", He.ga K "OwnMake"]) (h3 : 0 ≤ eg) (h4 : 0 ≤ share) (h5 : share ≤ 100) (h6 : 0 ≤ cap) (h7 : 1 ≤ room) (h8 : room ≤ 100) (q_ : Q (.d .none) [some (.ins C (makeF ⟨sh, none, eg, te, da, ch, share, cap, du, room⟩))]) : c_Make___init__ K [.r 0, .d (.bool sh), .d (.none), .d (.int eg), .d (.bool te), .d (.bool da), .d (.bool ch), .d (.int share), .d (.int cap), .d (.bool du), .d (.int room)] [some (.ins C [])] Q X :=
  k_Make___init__ (gr := none) h1 (fun g e => by cases e) h3 h4 h5 h6 h7 h8 q_
local macro_rules | `(tactic| focus fail "zk") => `(tactic| with_reducible refine kS_Make___init__ ?_ ?_ ?_ ?_ ?_ ?_ ?_ ?_ ?_)
local macro_rules | `(tactic| focus fail "zk") => `(tactic| with_reducible refine kN_Make___init__ ?_ ?_ ?_ ?_ ?_ ?_ ?_ ?_)
local macro_rules | `(tactic| focus fail "zk") => `(tactic| with_reducible refine k_Make___init__ ?_ ?_ ?_ ?_ ?_ ?_ ?_ ?_ ?_)
def c_Make_lifetime (K : PySem.W.Frag) : ASp := fun es M Q X => ∃ (slfw : Nat), ∃ (slf : MakeR), ∃ (d : DirR), ∃ (date : Option Int), ∃ (changed : Option Int), es = [.d (makeD K slfw slf), .d (dirD K d), .d (oi date), .d (oi changed)] ∧ M = [] ∧ (0 ≤ slf.share) ∧ (slf.share ≤ 100) ∧ (Q (.d (.int (lifeM slf d date changed))) [])
theorem k_Make_lifetime {K : PySem.W.Frag} {slfw : Nat} {slf : MakeR} {d : DirR} {date : Option Int} {changed : Option Int} {Q : Ent → Ms → Prop} {X : Xa} (h1 : 0 ≤ slf.share) (h2 : slf.share ≤ 100) (q_ : Q (.d (.int (lifeM slf d date changed))) []) : c_Make_lifetime K [.d (makeD K slfw slf), .d (dirD K d), .d (oi date), .d (oi changed)] [] Q X := ⟨slfw, slf, d, date, changed, rfl, rfl, h1, h2, q_⟩
theorem sc_Make_lifetime : FnScope ["self", "directives", "date", "changed", "unchanged_for"] ["self", "directives", "date", "changed"] (defScope (inClass (topS 43) 6)) := ⟨rfl, rfl, rfl, by decide +kernel, rfl, by decide +kernel, by decide +kernel⟩
theorem fk_Make_lifetime {f : Addr} {fd : FuncData} (T : Top fa fn K mg) (F : FunD K "lifetime" "Make.lifetime" (defArgs (inClass (topS 43) 6)) (defBody (inClass (topS 43) 6)) (defScope (inClass (topS 43) 6)) (([] : List He.Dv).map (He.Dv.v K)) (([] : List (Str × He.Dv)).map fun q => (q.1, q.2.v K)) f fd) : FnOk P w K mg base CX0 1 f fd ["self", "directives", "date", "changed"] (spA K (c_Make_lifetime K)) := by
  have sc := sc_Make_lifetime
  refine fn_ok F sc (fun es M Q X h => ?_) fun cdv A outer s H E hr => ⟨_, (pss_cons (ps_if (PW.pt (pw_and (kt_tru (K := K) rfl (ke_fld (f := "shared") (Cs := [He.ga K "Make", He.ga K "StrictMake", He.ga K "OwnMake"]) (K := K) rfl (pv 0) (fo_cons (T.fact 18 rfl) (T.fact 19 rfl) (fo_cons (T.fact 16 rfl) (T.fact 17 rfl) (fo_cons (T.fact 14 rfl) (T.fact 15 rfl) fo_nil)))) (by intro _; rfl)) (pw_and1 (pt_cmpR op_isNotU (ke_fld (f := "shared_lasts") (Cs := [He.ga K "Directives"]) (K := K) rfl (pv 1) (fo_cons (T.fact 60 rfl) (T.fact 62 rfl) fo_nil)) pe_non (nomark _))))) (pss_one (ps_ret (ke_fld (f := "shared_lasts") (Cs := [He.ga K "Directives"]) (K := K) rfl (pv 1) (fo_cons (T.fact 60 rfl) (T.fact 62 rfl) fo_nil)))) pss_nil)
      (pss_cons (ps_if (pt_cmpR op_isNotU (ke_fld (f := "lasts") (Cs := [He.ga K "Directives"]) (K := K) rfl (pv 1) (fo_cons (T.fact 60 rfl) (T.fact 61 rfl) fo_nil)) pe_non (nomark _)) (pss_one (ps_ret (ke_fld (f := "lasts") (Cs := [He.ga K "Directives"]) (K := K) rfl (pv 1) (fo_cons (T.fact 60 rfl) (T.fact 61 rfl) fo_nil)))) pss_nil)
      (pss_cons (ps_if (PW.pt (pw_or (pt_cmpR op_isV (pv 2) pe_non (nomark _)) (pw_or1 (pt_cmpR op_isV (pv 3) pe_non (nomark _))))) (pss_one (ps_ret pe_int)) pss_nil)
      (pss_cons (ps_set (i := 4) sc.nd rfl (Or.inl rfl) (pe_callB (call_max2 rfl) (by rfl) (T.free 59 rfl) (by decide +kernel) (pa_cons (pe_op op_sub (pv 2) (pv 3)) (pa_cons pe_int pa_nil))))
      (pss_one (ps_ret (pe_callB (call_min2 rfl) (by rfl) (T.free 58 rfl) (by decide +kernel) (pa_cons (pe_op op_fdivN (pe_op (kMulU (K := K) rfl) (ke_fld (f := "share") (Cs := [He.ga K "Make", He.ga K "StrictMake", He.ga K "OwnMake"]) (K := K) rfl (pv 0) (fo_cons (T.fact 18 rfl) (T.fact 40 rfl) (fo_cons (T.fact 16 rfl) (T.fact 39 rfl) (fo_cons (T.fact 14 rfl) (T.fact 38 rfl) fo_nil)))) (pv 4)) pe_int) (pa_cons (ke_fld (f := "cap") (Cs := [He.ga K "Make", He.ga K "StrictMake", He.ga K "OwnMake"]) (K := K) rfl (pv 0) (fo_cons (T.fact 18 rfl) (T.fact 37 rfl) (fo_cons (T.fact 16 rfl) (T.fact 36 rfl) (fo_cons (T.fact 14 rfl) (T.fact 35 rfl) fo_nil)))) pa_nil))))))))), fun es M Q X h => ?_⟩
  · obtain ⟨slfw, slf, d, date, changed, rfl, rfl, h1, h2, k⟩ := h
    all_goals rfl
  · obtain ⟨slfw, slf, d, date, changed, rfl, rfl, h1, h2, k⟩ := h
    all_goals try simp only [cx_K, cx_Kx, cxS_K, cxS_Kx]
    all_goals fail "zg"
    obtain ⟨dl, ds, a3, a4, a5, a6, a7, a8, a9, b1, b2, b3⟩ := d
    obtain ⟨sh, c1, c2, c3, c4, c5, share, cap, c6, c7⟩ := slf
    dsimp only at h1 h2 k
    fail "z"
    all_goals first
      | (exact Or.inl ⟨by dsimp only; omega, by dsimp only; omega⟩)
      | skip
    all_goals fail "z"
    all_goals (refine q_of k ?_ rfl; simp_all [lifeM]; done)
theorem cm_Make_lifetime (T : Top fa fn K mg) : Cm P w K mg base CX0 ("Make", some "lifetime") "lifetime" "Make.lifetime" (inClass (topS 43) 6) (([] : List He.Dv).map (He.Dv.v K)) (([] : List (Str × He.Dv)).map fun q => (q.1, q.2.v K)) 1 ["self", "directives", "date", "changed"] (c_Make_lifetime K) := cm_of T 11 rfl fun fd F => fk_Make_lifetime T F
theorem cm_StrictMake_lifetime (T : Top fa fn K mg) : Cm P w K mg base CX0 ("StrictMake", some "lifetime") "lifetime" "Make.lifetime" (inClass (topS 43) 6) (([] : List He.Dv).map (He.Dv.v K)) (([] : List (Str × He.Dv)).map fun q => (q.1, q.2.v K)) 1 ["self", "directives", "date", "changed"] (c_Make_lifetime K) := cm_of T 12 rfl fun fd F => fk_Make_lifetime T F
theorem cm_OwnMake_lifetime (T : Top fa fn K mg) : Cm P w K mg base CX0 ("OwnMake", some "lifetime") "lifetime" "Make.lifetime" (inClass (topS 43) 6) (([] : List He.Dv).map (He.Dv.v K)) (([] : List (Str × He.Dv)).map fun q => (q.1, q.2.v K)) 1 ["self", "directives", "date", "changed"] (c_Make_lifetime K) := cm_of T 13 rfl fun fd F => fk_Make_lifetime T F
local macro_rules | `(tactic| focus fail "zk") => `(tactic| with_reducible refine k_Make_lifetime ?_ ?_ ?_)
local macro_rules | `(tactic| focus fail "zk") => `(tactic| with_reducible refine k_Make_lifetime (date := none) (changed := none) ?_ ?_ ?_)
def c_Make_keeps (K : PySem.W.Frag) : ASp := fun es M Q X => ∃ (slfw : Nat), ∃ (slf : MakeR), ∃ (w : DirR), ∃ (d : DirR), es = [.d (makeD K slfw slf), .d (dirD K w), .d (dirD K d)] ∧ M = [] ∧ (Q (.d (.bool (keepM slf w d))) [])
theorem k_Make_keeps {K : PySem.W.Frag} {slfw : Nat} {slf : MakeR} {w : DirR} {d : DirR} {Q : Ent → Ms → Prop} {X : Xa}  (q_ : Q (.d (.bool (keepM slf w d))) []) : c_Make_keeps K [.d (makeD K slfw slf), .d (dirD K w), .d (dirD K d)] [] Q X := ⟨slfw, slf, w, d, rfl, rfl, q_⟩
theorem sc_Make_keeps : FnScope ["self", "wish", "directives"] ["self", "wish", "directives"] (defScope (inClass (topS 43) 7)) := ⟨rfl, rfl, rfl, by decide +kernel, rfl, by decide +kernel, by decide +kernel⟩
theorem fk_Make_keeps {f : Addr} {fd : FuncData} (T : Top fa fn K mg) (F : FunD K "keeps" "Make.keeps" (defArgs (inClass (topS 43) 7)) (defBody (inClass (topS 43) 7)) (defScope (inClass (topS 43) 7)) (([] : List He.Dv).map (He.Dv.v K)) (([] : List (Str × He.Dv)).map fun q => (q.1, q.2.v K)) f fd) : FnOk P w K mg base CX0 1 f fd ["self", "wish", "directives"] (spA K (c_Make_keeps K)) := by
  have sc := sc_Make_keeps
  refine fn_ok F sc (fun es M Q X h => ?_) fun cdv A outer s H E hr => ⟨_, (pss_cons (ps_if (PW.pt (pw_or (kt_tru (K := K) rfl (ke_fld (f := "never") (Cs := [He.ga K "Directives"]) (K := K) rfl (pv 1) (fo_cons (T.fact 60 rfl) (T.fact 64 rfl) fo_nil)) (by intro _; rfl)) (pw_or1 (kt_tru (K := K) rfl (ke_fld (f := "never") (Cs := [He.ga K "Directives"]) (K := K) rfl (pv 2) (fo_cons (T.fact 60 rfl) (T.fact 64 rfl) fo_nil)) (by intro _; rfl))))) (pss_one (ps_ret pe_bl)) pss_nil)
      (pss_one (ps_ret (ke_not (K := K) rfl (ke_and (K := K) rfl (ke_fld (f := "own") (Cs := [He.ga K "Directives"]) (K := K) rfl (pv 2) (fo_cons (T.fact 60 rfl) (T.fact 63 rfl) fo_nil)) (pe_one (ke_fld (f := "shared") (Cs := [He.ga K "Make", He.ga K "StrictMake", He.ga K "OwnMake"]) (K := K) rfl (pv 0) (fo_cons (T.fact 18 rfl) (T.fact 19 rfl) (fo_cons (T.fact 16 rfl) (T.fact 17 rfl) (fo_cons (T.fact 14 rfl) (T.fact 15 rfl) fo_nil)))))))))), fun es M Q X h => ?_⟩
  · obtain ⟨slfw, slf, w, d, rfl, rfl, k⟩ := h
    all_goals rfl
  · obtain ⟨slfw, slf, w, d, rfl, rfl, k⟩ := h
    all_goals try simp only [cx_K, cx_Kx, cxS_K, cxS_Kx]
    all_goals fail "zg"
    fail "z"
    all_goals (refine q_of k ?_ rfl; simp_all [keepM]; done)
theorem cm_Make_keeps (T : Top fa fn K mg) : Cm P w K mg base CX0 ("Make", some "keeps") "keeps" "Make.keeps" (inClass (topS 43) 7) (([] : List He.Dv).map (He.Dv.v K)) (([] : List (Str × He.Dv)).map fun q => (q.1, q.2.v K)) 1 ["self", "wish", "directives"] (c_Make_keeps K) := cm_of T 14 rfl fun fd F => fk_Make_keeps T F
theorem cm_StrictMake_keeps (T : Top fa fn K mg) : Cm P w K mg base CX0 ("StrictMake", some "keeps") "keeps" "Make.keeps" (inClass (topS 43) 7) (([] : List He.Dv).map (He.Dv.v K)) (([] : List (Str × He.Dv)).map fun q => (q.1, q.2.v K)) 1 ["self", "wish", "directives"] (c_Make_keeps K) := cm_of T 15 rfl fun fd F => fk_Make_keeps T F
theorem cm_OwnMake_keeps (T : Top fa fn K mg) : Cm P w K mg base CX0 ("OwnMake", some "keeps") "keeps" "Make.keeps" (inClass (topS 43) 7) (([] : List He.Dv).map (He.Dv.v K)) (([] : List (Str × He.Dv)).map fun q => (q.1, q.2.v K)) 1 ["self", "wish", "directives"] (c_Make_keeps K) := cm_of T 16 rfl fun fd F => fk_Make_keeps T F
local macro_rules | `(tactic| focus fail "zk") => `(tactic| with_reducible refine k_Make_keeps  ?_)
def c_StrictMake_allowance (K : PySem.W.Frag) : ASp := fun es M Q X => ∃ (slfw : Nat), ∃ (slf : MakeR), ∃ (w : DirR), ∃ (d : DirR), es = [.d (makeD K slfw slf), .d (dirD K w), .d (dirD K d)] ∧ M = [] ∧ (Q (.d (.int 0)) [])
theorem k_StrictMake_allowance {K : PySem.W.Frag} {slfw : Nat} {slf : MakeR} {w : DirR} {d : DirR} {Q : Ent → Ms → Prop} {X : Xa}  (q_ : Q (.d (.int 0)) []) : c_StrictMake_allowance K [.d (makeD K slfw slf), .d (dirD K w), .d (dirD K d)] [] Q X := ⟨slfw, slf, w, d, rfl, rfl, q_⟩
theorem sc_StrictMake_allowance : FnScope ["self", "wish", "directives"] ["self", "wish", "directives"] (defScope (inClass (topS 44) 2)) := ⟨rfl, rfl, rfl, by decide +kernel, rfl, by decide +kernel, by decide +kernel⟩
theorem fk_StrictMake_allowance {f : Addr} {fd : FuncData} (T : Top fa fn K mg) (F : FunD K "allowance" "StrictMake.allowance" (defArgs (inClass (topS 44) 2)) (defBody (inClass (topS 44) 2)) (defScope (inClass (topS 44) 2)) (([] : List He.Dv).map (He.Dv.v K)) (([] : List (Str × He.Dv)).map fun q => (q.1, q.2.v K)) f fd) : FnOk P w K mg base CX0 1 f fd ["self", "wish", "directives"] (spA K (c_StrictMake_allowance K)) := by
  have sc := sc_StrictMake_allowance
  refine fn_ok F sc (fun es M Q X h => ?_) fun cdv A outer s H E hr => ⟨_, (pss_one (ps_ret pe_int)), fun es M Q X h => ?_⟩
  · obtain ⟨slfw, slf, w, d, rfl, rfl, k⟩ := h
    all_goals rfl
  · obtain ⟨slfw, slf, w, d, rfl, rfl, k⟩ := h
    all_goals try simp only [cx_K, cx_Kx, cxS_K, cxS_Kx]
    all_goals fail "zg"
    fail "z"
    all_goals exact k
theorem cm_StrictMake_allowance (T : Top fa fn K mg) : Cm P w K mg base CX0 ("StrictMake", some "allowance") "allowance" "StrictMake.allowance" (inClass (topS 44) 2) (([] : List He.Dv).map (He.Dv.v K)) (([] : List (Str × He.Dv)).map fun q => (q.1, q.2.v K)) 1 ["self", "wish", "directives"] (c_StrictMake_allowance K) := cm_of T 17 rfl fun fd F => fk_StrictMake_allowance T F
local macro_rules | `(tactic| focus fail "zk") => `(tactic| with_reducible refine k_StrictMake_allowance  ?_)
def c_StrictMake_error_allowance (K : PySem.W.Frag) : ASp := fun es M Q X => ∃ (slfw : Nat), ∃ (slf : MakeR), ∃ (w : DirR), ∃ (d : DirR), es = [.d (makeD K slfw slf), .d (dirD K w), .d (dirD K d)] ∧ M = [] ∧ (Q (.d (.int 0)) [])
theorem k_StrictMake_error_allowance {K : PySem.W.Frag} {slfw : Nat} {slf : MakeR} {w : DirR} {d : DirR} {Q : Ent → Ms → Prop} {X : Xa}  (q_ : Q (.d (.int 0)) []) : c_StrictMake_error_allowance K [.d (makeD K slfw slf), .d (dirD K w), .d (dirD K d)] [] Q X := ⟨slfw, slf, w, d, rfl, rfl, q_⟩
theorem sc_StrictMake_error_allowance : FnScope ["self", "wish", "directives"] ["self", "wish", "directives"] (defScope (inClass (topS 44) 3)) := ⟨rfl, rfl, rfl, by decide +kernel, rfl, by decide +kernel, by decide +kernel⟩
theorem fk_StrictMake_error_allowance {f : Addr} {fd : FuncData} (T : Top fa fn K mg) (F : FunD K "error_allowance" "StrictMake.error_allowance" (defArgs (inClass (topS 44) 3)) (defBody (inClass (topS 44) 3)) (defScope (inClass (topS 44) 3)) (([] : List He.Dv).map (He.Dv.v K)) (([] : List (Str × He.Dv)).map fun q => (q.1, q.2.v K)) f fd) : FnOk P w K mg base CX0 1 f fd ["self", "wish", "directives"] (spA K (c_StrictMake_error_allowance K)) := by
  have sc := sc_StrictMake_error_allowance
  refine fn_ok F sc (fun es M Q X h => ?_) fun cdv A outer s H E hr => ⟨_, (pss_one (ps_ret pe_int)), fun es M Q X h => ?_⟩
  · obtain ⟨slfw, slf, w, d, rfl, rfl, k⟩ := h
    all_goals rfl
  · obtain ⟨slfw, slf, w, d, rfl, rfl, k⟩ := h
    all_goals try simp only [cx_K, cx_Kx, cxS_K, cxS_Kx]
    all_goals fail "zg"
    fail "z"
    all_goals exact k
theorem cm_StrictMake_error_allowance (T : Top fa fn K mg) : Cm P w K mg base CX0 ("StrictMake", some "error_allowance") "error_allowance" "StrictMake.error_allowance" (inClass (topS 44) 3) (([] : List He.Dv).map (He.Dv.v K)) (([] : List (Str × He.Dv)).map fun q => (q.1, q.2.v K)) 1 ["self", "wish", "directives"] (c_StrictMake_error_allowance K) := cm_of T 18 rfl fun fd F => fk_StrictMake_error_allowance T F
local macro_rules | `(tactic| focus fail "zk") => `(tactic| with_reducible refine k_StrictMake_error_allowance  ?_)
def c_l_purse (K : PySem.W.Frag) : ASp := fun es M Q X => ∃ (ns : List Int), ∃ (turn : Int), es = [.w (ns.map PyData.int), .d (.int turn)] ∧ M = [] ∧ (ns.length ≤ 63) ∧ (0 ≤ turn) ∧ (∀ a2 b2, 0 ≤ b2 → b2 < 2147483629 → Q (.r 0) [some (Pu a2 b2 0)])
theorem k_l_purse {K : PySem.W.Frag} {ns : List Int} {turn : Int} {Q : Ent → Ms → Prop} {X : Xa} (h1 : ns.length ≤ 63) (h2 : 0 ≤ turn) (q_ : ∀ a2 b2, 0 ≤ b2 → b2 < 2147483629 → Q (.r 0) [some (Pu a2 b2 0)]) : c_l_purse K [.w (ns.map PyData.int), .d (.int turn)] [] Q X := ⟨ns, turn, rfl, rfl, h1, h2, q_⟩
theorem sc_l_purse : FnScope ["_law_script", "_law_turn", "_law_fold", "_law_k", "_law_seed", "_law_cell"] ["_law_script", "_law_turn"] (defScope (topS 47)) := ⟨rfl, rfl, rfl, by decide +kernel, rfl, by decide +kernel, by decide +kernel⟩
theorem ca_l_purse (T : Top fa fn K mg) : Ca P w K mg base CX0 "_law_purse" (topS 47) 1 ["_law_script", "_law_turn"] (c_l_purse K) := by
  have sc := sc_l_purse
  refine ca_of T 19 67 rfl rfl (fun _ _ _ _ _ _ us hl => by exact match us, hl with | [_, _], _ => rfl) fun fd F => fn_ok F sc (fun es M Q X h => ?_) fun cdv A outer s H E hr => ⟨_, (pss_cons (ps_set (i := 2) sc.nd rfl (Or.inl rfl) pe_int)
      (pss_cons (ps_for PassesOwn.never rfl (pi_range1 (by rfl) (T.free 66 rfl) (pa_cons (pe_callB (kLen (K := K) rfl) (by rfl) (T.free 25 rfl) (by decide +kernel) (pa_cons (pv 0) pa_nil)) pa_nil)) (pg_name (i := 3) sc.nd rfl (Or.inl rfl)) (pss_one (ps_set (i := 2) sc.nd rfl (Or.inl rfl) (pe_op op_modN (pe_op (kAdd (K := K) rfl) (pe_op (kAdd (K := K) rfl) (pe_op (kMulU (K := K) rfl) (pv 2) pe_int) (pe_op op_modN (pe_callTy call_intU (by rfl) (T.free 65 rfl) (by decide +kernel) (pa_cons (pe_ix (kIx (K := K) rfl) (pv 0) (pv 3) (fun _ _ => rfl)) pa_nil)) pe_int)) (pv 3)) pe_int))))
      (pss_cons (ps_set (i := 4) sc.nd rfl (Or.inl rfl) (pe_op op_modN (pe_op (kAdd (K := K) rfl) (pe_op (kMulU (K := K) rfl) (pv 2) pe_int) (pe_op (kMulU (K := K) rfl) (pv 1) pe_int)) pe_int))
      (pss_cons (ps_set (i := 5) sc.nd rfl (Or.inl rfl) pe_int)
      (pss_cons (ps_if (pt_cmpR op_ltU (pv 1) (pe_callB (kLen (K := K) rfl) (by rfl) (T.free 25 rfl) (by decide +kernel) (pa_cons (pv 0) pa_nil)) (nomark _)) (pss_one (ps_set (i := 5) sc.nd rfl (Or.inl rfl) (pe_callTy call_intU (by rfl) (T.free 65 rfl) (by decide +kernel) (pa_cons (pe_ix (kIx (K := K) rfl) (pv 0) (pv 1) (fun _ _ => rfl)) pa_nil)))) pss_nil)
      (pss_cons (ps_if (pt_cmpR op_geU (pv 5) (pe_op op_pow pe_int pe_int) (nomark _)) (pss_one (ps_ret (pe_mut (pe_lst (pa_cons (pv 5) (pa_cons (pv 4) (pa_cons pe_int pa_nil))))))) pss_nil)
      (pss_one (ps_ret (pe_mut (pe_lst (pa_cons pe_int (pa_cons (pe_op op_modN (pe_op (kAdd (K := K) rfl) (pv 4) (pe_op op_modN (pe_callTy call_intU (by rfl) (T.free 65 rfl) (by decide +kernel) (pa_cons (pv 5) pa_nil)) pe_int)) pe_int) (pa_cons pe_int pa_nil))))))))))))), fun es M Q X h => ?_⟩
  · obtain ⟨ns, turn, rfl, rfl, h1, h2, k⟩ := h
    all_goals rfl
  · obtain ⟨ns, turn, rfl, rfl, h1, h2, k⟩ := h
    all_goals try simp only [cx_K, cx_Kx]
    all_goals fail "zg"
    fail "z"
    fail "zg"
    refine s_for0 ?_
    fail "z"
    refine ⟨fun its Γ0 M0 t Γ' M' => ∃ (f : Int) (v3 : Option Ent), Γ' = upG Γ0 [(2, some (.d (.int f))), (3, v3)] ∧ M' = M0, ⟨0, _, rfl, rfl⟩, (fun _ _ _ _ hj => by first | trivial | exact LD.d | exact LD.w | (obtain ⟨f, v3, rfl, rfl⟩ := hj; exact LD.r rfl)), ?_, ?_⟩
    · rintro t e Γ' M' he ⟨f, v3, rfl, rfl⟩
      fail "zg"
      obtain ⟨ht, rfl⟩ := rgE_get he
      fail "z"
      all_goals first
        | exact ⟨_, _, rfl, rfl⟩
        | trace_state
    · rintro Γ' M' ⟨f, v3, rfl, rfl⟩
      fail "zg"
      fail "z"
      all_goals first
        | exact k _ _ (em0 (by omega)) (em1 (by omega))
        | trace_state
local macro_rules | `(tactic| focus fail "zk") => `(tactic| with_reducible refine k_l_purse ?_ ?_ ?_)
def c_l_take (K : PySem.W.Frag) : ASp := fun es M Q X => ∃ (ways : Int), ∃ (a : Int), ∃ (b : Int), ∃ (n : Int), es = [.r 0, .d (.int ways)] ∧ M = [some (Pu a b n)] ∧ (0 ≤ b) ∧ (b < 2147483629) ∧ (0 ≤ n) ∧ (n ≤ 99999) ∧ (1 ≤ ways) ∧ (ways ≤ 1000000) ∧ (∀ (d : Int) (a2 n2 : Int), n ≤ n2 → n2 ≤ n + 1 → 0 ≤ d → d < ways → Q (.d (.int d)) [some (Pu a2 b n2)])
theorem k_l_take {K : PySem.W.Frag} {ways : Int} {a : Int} {b : Int} {n : Int} {Q : Ent → Ms → Prop} {X : Xa} (h1 : 0 ≤ b) (h2 : b < 2147483629) (h3 : 0 ≤ n) (h4 : n ≤ 99999) (h5 : 1 ≤ ways) (h6 : ways ≤ 1000000) (q_ : ∀ (d : Int) (a2 n2 : Int), n ≤ n2 → n2 ≤ n + 1 → 0 ≤ d → d < ways → Q (.d (.int d)) [some (Pu a2 b n2)]) : c_l_take K [.r 0, .d (.int ways)] [some (Pu a b n)] Q X := ⟨ways, a, b, n, rfl, rfl, h1, h2, h3, h4, h5, h6, q_⟩
theorem sc_l_take : FnScope ["_law_purse_here", "_law_size", "_law_digit", "_law_seed", "_law_k", "_law_first", "_law_second", "_law_third"] ["_law_purse_here", "_law_size"] (defScope (topS 48)) := ⟨rfl, rfl, rfl, by decide +kernel, rfl, by decide +kernel, by decide +kernel⟩
theorem ca_l_take (T : Top fa fn K mg) : Ca P w K mg base CX0 "_law_take" (topS 48) 1 ["_law_purse_here", "_law_size"] (c_l_take K) := by
  have sc := sc_l_take
  refine ca_of T 20 68 rfl rfl (fun _ _ _ _ _ _ us hl => by exact match us, hl with | [_, _], _ => rfl) fun fd F => fn_ok F sc (fun es M Q X h => ?_) fun cdv A outer s H E hr => ⟨_, (pss_cons (ps_if (pt_cmpR op_gtU (pe_ix (kIx (K := K) rfl) (pv 0) pe_int (fun _ _ => rfl)) pe_int (nomark _)) (pss_cons (ps_set (i := 2) sc.nd rfl (Or.inl rfl) (pe_op op_modN (pe_callTy call_intU (by rfl) (T.free 65 rfl) (by decide +kernel) (pa_cons (pe_ix (kIx (K := K) rfl) (pv 0) pe_int (fun _ _ => rfl)) pa_nil)) (pv 1)))
      (pss_cons (ps_asg (pe_op op_fdivN (pe_ix (kIx (K := K) rfl) (pv 0) pe_int (fun _ _ => rfl)) (pv 1)) (pg_sub (pv 0) pe_int set_list))
      (pss_one (ps_ret (pv 2))))) pss_nil)
      (pss_cons (ps_asg (pe_op (kAdd (K := K) rfl) (pe_ix (kIx (K := K) rfl) (pv 0) pe_int (fun _ _ => rfl)) pe_int) (pg_sub (pv 0) pe_int set_list))
      (pss_cons (ps_set (i := 3) sc.nd rfl (Or.inl rfl) (pe_ix (kIx (K := K) rfl) (pv 0) pe_int (fun _ _ => rfl)))
      (pss_cons (ps_set (i := 4) sc.nd rfl (Or.inl rfl) (pe_ix (kIx (K := K) rfl) (pv 0) pe_int (fun _ _ => rfl)))
      (pss_cons (ps_set (i := 5) sc.nd rfl (Or.inl rfl) (pe_op op_modN (pe_callTy call_intU (by rfl) (T.free 65 rfl) (by decide +kernel) (pa_cons (pe_op (kAdd (K := K) rfl) (pe_op (kMulU (K := K) rfl) (pv 3) pe_int) (pe_op (kMulU (K := K) rfl) (pv 4) pe_int)) pa_nil)) pe_int))
      (pss_cons (ps_set (i := 6) sc.nd rfl (Or.inl rfl) (pe_op op_modN (pe_callTy call_intU (by rfl) (T.free 65 rfl) (by decide +kernel) (pa_cons (pe_op (kAdd (K := K) rfl) (pe_op (kAdd (K := K) rfl) (pe_op (kMulU (K := K) rfl) (pe_op (kMulU (K := K) rfl) (pv 5) (pv 5)) (pv 3)) (pe_op (kMulU (K := K) rfl) (pe_op (kMulU (K := K) rfl) pe_int (pv 4)) (pv 4))) (pe_op (kMulU (K := K) rfl) pe_int (pv 4))) pa_nil)) pe_int))
      (pss_cons (ps_set (i := 7) sc.nd rfl (Or.inl rfl) (pe_op op_modN (pe_callTy call_intU (by rfl) (T.free 65 rfl) (by decide +kernel) (pa_cons (pe_op (kAdd (K := K) rfl) (pe_op (kMulU (K := K) rfl) (pe_op (kMulU (K := K) rfl) (pv 6) (pv 6)) (pv 3)) (pv 6)) pa_nil)) pe_int))
      (pss_one (ps_ret (pe_op op_modN (pe_callTy call_intU (by rfl) (T.free 65 rfl) (by decide +kernel) (pa_cons (pe_op op_fdivN (pv 7) pe_int) pa_nil)) (pv 1))))))))))), fun es M Q X h => ?_⟩
  · obtain ⟨ways, a, b, n, rfl, rfl, h1, h2, h3, h4, h5, h6, k⟩ := h
    all_goals rfl
  · obtain ⟨ways, a, b, n, rfl, rfl, h1, h2, h3, h4, h5, h6, k⟩ := h
    all_goals try simp only [cx_K, cx_Kx]
    all_goals fail "zg"
    fail "z"
    all_goals first
      | exact k _ _ _ (by omega) (by omega) (em0 (by omega)) (em1 (by omega))
      | (exact Or.inr ⟨by omega, by omega⟩)
      | trace_state
local macro_rules | `(tactic| focus fail "zk") => `(tactic| with_reducible refine k_l_take ?_ ?_ ?_ ?_ ?_ ?_ ?_)
def c_l_known (K : PySem.W.Frag) : ASp := fun es M Q X => ∃ (w : WoR), es = [.r 0] ∧ M = [some (.dic (worldK w))] ∧ (okW w) ∧ (Q (.d (.bool (knownB w))) [some (.dic (worldK w))])
theorem k_l_known {K : PySem.W.Frag} {w : WoR} {Q : Ent → Ms → Prop} {X : Xa} (h1 : okW w) (q_ : Q (.d (.bool (knownB w))) [some (.dic (worldK w))]) : c_l_known K [.r 0] [some (.dic (worldK w))] Q X := ⟨w, rfl, rfl, h1, q_⟩
theorem sc_l_known : FnScope ["_law_world_here", "_law_content", "_law_made"] ["_law_world_here"] (defScope (topS 55)) := ⟨rfl, rfl, rfl, by decide +kernel, rfl, by decide +kernel, by decide +kernel⟩
theorem ca_l_known (T : Top fa fn K mg) : Ca P w K mg base CX0 "_law_known" (topS 55) 1 ["_law_world_here"] (c_l_known K) := by
  have sc := sc_l_known
  refine ca_of T 21 69 rfl rfl (fun _ _ _ _ _ _ us hl => by exact match us, hl with | [_], _ => rfl) fun fd F => fn_ok F sc (fun es M Q X h => ?_) fun cdv A outer s H E hr => ⟨_, (pss_cons (ps_set (i := 1) sc.nd rfl (Or.inr rfl) (pe_dget (hu_of hr) (pv 0) pe_str (fun _ _ => rfl)))
      (pss_one (ps_ret (pe_callB (kAll (K := K) rfl rfl) (by rfl) (T.free 0 rfl) (by decide +kernel) (pa_cons (pe_lc (own := [("_law_made", 2)]) (g := (gName 2)) (tt := tYes) rfl sc.nd (ki_list (K := K) rfl (pe_dget (hu_of hr) (pv 0) pe_str (fun _ _ => rfl))) (blkOk_by (own := [("_law_made", 2)]) (N := ["_law_world_here", "_law_content", "_law_made"]) (sc := defScope (topS 55)) (by decide +kernel)) (fun _ _ _ _ _ => (pg_name (i := 2) sc.nd rfl (Or.inl rfl))) (fun _ _ _ _ _ => pts_nil) (fun _ _ _ _ _ => (ke_or (K := K) rfl (pe_cmpR op_isNotU (pe_ix (kIx (K := K) rfl) (pv 1) pe_int (fun _ _ => rfl)) pe_non (nomark _)) (pe_one (ke_and (K := K) rfl (pe_ix (kIx (K := K) rfl) (pv 2) pe_int (fun _ _ => rfl)) (pe_one (pe_cmpR op_isNotU (pe_ix (kIx (K := K) rfl) (pv 1) pe_int (fun _ _ => rfl)) pe_non (nomark _)))))))) pa_nil))))), fun es M Q X h => ?_⟩
  · obtain ⟨w, rfl, rfl, h1, k⟩ := h
    all_goals rfl
  · obtain ⟨w, rfl, rfl, h1, k⟩ := h
    all_goals try simp only [cx_K, cx_Kx]
    all_goals fail "zg"
    have wk_0 := wk_hops w
    have wk_1 := wk_makes w
    have wk_2 := wk_kind w
    have wk_3 := wk_spans w
    have wk_4 := wk_links w
    have wk_5 := wk_lossy w
    
    have hn1 := h1.n1
    have hn2 := h1.n2
    have hmc := h1.mc
    unfold knownB tellsB mkOf at k
    obtain ⟨hops, makes, kind, spans, links, lossy⟩ := w
    dsimp only at *
    obtain ⟨la, sh, lt, oe, st, ck, ow, ne, mk, da, ma⟩ := kind
    unfold kdD valsD at *
    dsimp only at *
    fail "z"
    refine w_lcE (wp_name (by simp)) ?_
    fail "z"
    refine ⟨MkRow, makes, fun z => .d (rowD z), fun _ => true, fun z => .bool (la.isSome || (z.sh && sh.isSome)), by first | rfl | (rw [List.map_map]; rfl), by rw [sizeLine]; omega, by first | exact LD.d | exact LD.r rfl | trivial, fun z hz => ?_, ?_⟩
    · fail "z"
      obtain ⟨sort, zsh, gr, eg, te, da, ch, du, share, cap, room⟩ := z
      unfold rowD
      dsimp only at *
      fail "z"
      all_goals first
        | assumption
        | (rename_i hR hb; refine q_of hR ?_ rfl; subst hb; cases sh <;> rfl)
        | (simp_all; done)
        | trace_state
    try rw [List.filter_eq_self.mpr (fun _ _ => rfl)]
    rw [show makes.map (fun z => PyData.bool (la.isSome || (z.sh && sh.isSome))) = (makes.map (fun z => la.isSome || (z.sh && sh.isSome))).map PyData.bool by rw [List.map_map]; rfl]
    fail "z"
    all_goals (refine q_of k ?_ rfl; rw [List.all_map]; rfl)
local macro_rules | `(tactic| focus fail "zk") => `(tactic| with_reducible refine k_l_known ?_ ?_)
def c_l_sound (K : PySem.W.Frag) : ASp := fun es M Q X => ∃ (w : WoR), es = [.r 0] ∧ M = [some (.dic (worldK w))] ∧ (okW w) ∧ (Q (.d (.bool (soundW w))) [some (.dic (worldK w))])
theorem k_l_sound {K : PySem.W.Frag} {w : WoR} {Q : Ent → Ms → Prop} {X : Xa} (h1 : okW w) (q_ : Q (.d (.bool (soundW w))) [some (.dic (worldK w))]) : c_l_sound K [.r 0] [some (.dic (worldK w))] Q X := ⟨w, rfl, rfl, h1, q_⟩
theorem sc_l_sound : FnScope ["_law_world_here", "_law_content", "_law_trusting", "_law_made", "_law_span"] ["_law_world_here"] (defScope (topS 56)) := ⟨rfl, rfl, rfl, by decide +kernel, rfl, by decide +kernel, by decide +kernel⟩
theorem ca_l_sound (T : Top fa fn K mg) : Ca P w K mg base CX0 "_law_sound" (topS 56) 1 ["_law_world_here"] (c_l_sound K) := by
  have sc := sc_l_sound
  refine ca_of T 22 70 rfl rfl (fun _ _ _ _ _ _ us hl => by exact match us, hl with | [_], _ => rfl) fun fd F => fn_ok F sc (fun es M Q X h => ?_) fun cdv A outer s H E hr => ⟨_, (pss_cons (ps_set (i := 1) sc.nd rfl (Or.inr rfl) (pe_dget (hu_of hr) (pv 0) pe_str (fun _ _ => rfl)))
      (pss_cons (ps_setLc (i := 2) (own := [("_law_made", 3)]) (g := (gName 3)) (tt := _) rfl sc.nd rfl rfl (sw_true rfl rfl rfl (by decide +kernel)) (ki_list (K := K) rfl (pe_dget (hu_of hr) (pv 0) pe_str (fun _ _ => rfl))) (blkOk_by (own := [("_law_made", 3)]) (N := ["_law_world_here", "_law_content", "_law_trusting", "_law_made", "_law_span"]) (sc := defScope (topS 56)) (by decide +kernel)) (fun _ _ _ _ _ => (pg_name (i := 3) sc.nd rfl (Or.inl rfl))) (fun _ _ _ _ _ => (pts_one (PW.pt (pw_and (kt_tru (K := K) rfl (pe_ix (kIx (K := K) rfl) (pv 3) pe_int (fun _ _ => rfl)) (by intro _; rfl)) (pw_and (pt_not (kt_tru (K := K) rfl (pe_ix (kIx (K := K) rfl) (pv 1) pe_int (fun _ _ => rfl)) (by intro _; rfl))) (pw_and1 (pt_not (PW.pt (pw_and (kt_tru (K := K) rfl (pe_ix (kIx (K := K) rfl) (pv 1) pe_int (fun _ _ => rfl)) (by intro _; rfl)) (pw_and1 (kt_tru (K := K) rfl (pe_ix (kIx (K := K) rfl) (pv 3) pe_int (fun _ _ => rfl)) (by intro _; rfl)))))))))))) (fun _ _ _ _ _ => (pv 3)))
      (pss_cons (ps_if (PW.pt (pw_or (pt_cmpR (kEq (K := K) rfl hr.units) (pv 2) (pe_lst pa_nil) (nomark _)) (pw_or1 (pt_cmpR (kEq (K := K) rfl hr.units) (pe_ix (kIx (K := K) rfl) (pv 1) pe_int (fun _ _ => rfl)) pe_str (nomark _))))) (pss_one (ps_ret pe_bl)) pss_nil)
      (pss_cons (ps_set (i := 4) sc.nd rfl (Or.inl rfl) (pe_ifExp (pt_cmpR op_isV (pe_dget (hu_of hr) (pv 0) pe_str (fun _ _ => rfl)) pe_non (nomark _)) pe_int (pe_op (kAdd (K := K) rfl) (pe_ix (kIx (K := K) rfl) (pe_ix (kIx (K := K) rfl) (pe_dget (hu_of hr) (pv 0) pe_str (fun _ _ => rfl)) (pe_un un_neg pe_int) (fun _ _ => rfl)) pe_int (fun _ _ => rfl)) (pe_ix (kIx (K := K) rfl) (pe_ix (kIx (K := K) rfl) (pe_dget (hu_of hr) (pv 0) pe_str (fun _ _ => rfl)) (pe_un un_neg pe_int) (fun _ _ => rfl)) pe_int (fun _ _ => rfl)))))
      (pss_one (ps_ret (ke_and (K := K) rfl (pe_cmpR (kEq (K := K) rfl hr.units) (pe_ix (kIx (K := K) rfl) (pv 1) pe_int (fun _ _ => rfl)) pe_str (nomark _)) (pe_one (ke_not (K := K) rfl (ke_and (K := K) rfl (pe_ix (kIx (K := K) rfl) (pv 1) pe_int (fun _ _ => rfl)) (pe_one (pe_cmpR op_leU (pe_ix (kIx (K := K) rfl) (pv 1) pe_int (fun _ _ => rfl)) (pv 4) (nomark _))))))))))))), fun es M Q X h => ?_⟩
  · obtain ⟨w, rfl, rfl, h1, k⟩ := h
    all_goals rfl
  · obtain ⟨w, rfl, rfl, h1, k⟩ := h
    all_goals try simp only [cx_K, cx_Kx]
    all_goals fail "zg"
    have wk_0 := wk_hops w
    have wk_1 := wk_makes w
    have wk_2 := wk_kind w
    have wk_3 := wk_spans w
    have wk_4 := wk_links w
    have wk_5 := wk_lossy w
    
    have hmc := h1.mc
    have hn2 := h1.n2
    have hsl := h1.sl
    have hkd := h1.kd.2.2.2.2.1
    unfold soundW at k
    have htn := @trust_nil w.kind w.makes
    obtain ⟨hops, makes, kind, spans, links, lossy⟩ := w
    dsimp only at *
    obtain ⟨la, sh, lt, oe, st, ck, ow, ne, mk, da, ma⟩ := kind
    unfold kdD valsD at *
    dsimp only at *
    fail "z"
    refine w_lcE (wp_name (by simp)) ?_
    fail "z"
    refine ⟨MkRow, makes, fun z => .d (rowD z), fun z => trustB ⟨la, sh, lt, oe, st, ck, ow, ne, mk, da, ma⟩ z, fun z => rowD z, by first | rfl | (rw [List.map_map]; rfl), by rw [sizeLine]; omega, by first | exact LD.d | exact LD.r rfl | trivial, fun z hz => ?_, ?_⟩
    · fail "z"
      all_goals obtain ⟨zsort, zsh, gr, eg, te, zda, zch, du, share, cap, room⟩ := z
      all_goals unfold rowD at *
      all_goals dsimp only at *
      all_goals fail "z"
      all_goals first
        | assumption
        | (rename_i hR hb; exact b_of hR (by simp [trustB, hb]))
        | (rename_i hR hb1 hb; exact b_of hR (by simp [trustB, hb1, hb]))
        | (rename_i hR hb2 hb1 hb; exact b_of hR (by simp [trustB, hb2, hb1, hb]))
        | (rename_i hR hb3 hb2 hb1 hb; exact b_of hR (by simp [trustB, hb3, hb2, hb1, hb]))
        | trace_state
    skip
    fail "z"
    refine o_eqF2 DV.d DV.d (rows_flat _) rfl ?_
    rw [eqvAll_nil, htn]
    generalize (makes.all fun r => !trustB ⟨la, sh, lt, oe, st, ck, ow, ne, mk, da, ma⟩ r) = al at *
    rcases spans with _ | l
    · dsimp only [spD] at *
      fail "z"
      all_goals first
        | (refine q_of k ?_ rfl; clear k; simp_all [spanW]; done)
        | (rename_i u1 u2 u3 u4 u5; refine q_of k ?_ rfl; rw [u1, decide_eq_false u2, decide_eq_true u4, u5]; rfl)
        | trace_state
    · have hl := hsl l rfl
      obtain ⟨l0, p, rfl⟩ : ∃ l0 p, l = l0 ++ [p] := ⟨l.dropLast, l.getLast (fun e => by rw [e] at hl; simp at hl; omega), (List.dropLast_concat_getLast _).symm⟩
      have e : spD (some (l0 ++ [p])) = .list (l0.map prI ++ [.tuple [.int p.1, .int p.2]]) := by simp [spD]
      have e2 : spanW (some (l0 ++ [p])) = p.1 + p.2 := by simp [spanW]
      rw [e] at wk_3
      rw [e2] at k
      clear hsl hl e e2
      fail "z"
      all_goals first
        | (refine q_of k ?_ rfl; clear k; simp_all; done)
        | (rename_i u1 u2 u4 u5; refine q_of k ?_ rfl; rw [u1, decide_eq_false u2, decide_eq_true u4, u5]; rfl)
        | trace_state
local macro_rules | `(tactic| focus fail "zk") => `(tactic| with_reducible refine k_l_sound ?_ ?_)
def c_l_part (K : PySem.W.Frag) : ASp := fun es M Q X => ∃ (i : Int), ∃ (j : Int), ∃ (w : WoR), es = [.r 0, .d (.int i), .d (.int j)] ∧ M = [some (.dic (worldK w))] ∧ (okW w) ∧ (1 ≤ i) ∧ (i ≤ j) ∧ (j ≤ w.hops) ∧ (Q (.r 1) [some (.dic (worldK w)), some (.dic (worldK (partW w i j)))])
theorem k_l_part {K : PySem.W.Frag} {i : Int} {j : Int} {w : WoR} {Q : Ent → Ms → Prop} {X : Xa} (h1 : okW w) (h2 : 1 ≤ i) (h3 : i ≤ j) (h4 : j ≤ w.hops) (q_ : Q (.r 1) [some (.dic (worldK w)), some (.dic (worldK (partW w i j)))]) : c_l_part K [.r 0, .d (.int i), .d (.int j)] [some (.dic (worldK w))] Q X := ⟨i, j, w, rfl, rfl, h1, h2, h3, h4, q_⟩
theorem sc_l_part : FnScope ["_law_world_here", "_law_one", "_law_two", "_law_spans", "_law_links"] ["_law_world_here", "_law_one", "_law_two"] (defScope (topS 57)) := ⟨rfl, rfl, rfl, by decide +kernel, rfl, by decide +kernel, by decide +kernel⟩
theorem ca_l_part (T : Top fa fn K mg) : Ca P w K mg base CX0 "_law_part" (topS 57) 1 ["_law_world_here", "_law_one", "_law_two"] (c_l_part K) := by
  have sc := sc_l_part
  refine ca_of T 23 71 rfl rfl (fun _ _ _ _ _ _ us hl => by exact match us, hl with | [_, _, _], _ => rfl) fun fd F => fn_ok F sc (fun es M Q X h => ?_) fun cdv A outer s H E hr => ⟨_, (pss_cons (ps_set (i := 3) sc.nd rfl (Or.inl rfl) pe_non)
      (pss_cons (ps_if (pt_cmpR op_isNotU (pe_dget (hu_of hr) (pv 0) pe_str (fun _ _ => rfl)) pe_non (nomark _)) (pss_one (ps_set (i := 3) sc.nd rfl (Or.inl rfl) (pe_op (kAdd (K := K) rfl) (pe_slice (kSl (K := K) rfl) (pe_dget (hu_of hr) (pv 0) pe_str (fun _ _ => rfl)) (po_some (pe_op op_sub (pv 1) pe_int)) (po_some (pv 2))) (pe_slice (kSl (K := K) rfl) (pe_dget (hu_of hr) (pv 0) pe_str (fun _ _ => rfl)) (po_some (pe_un un_neg pe_int)) po_none)))) pss_nil)
      (pss_cons (ps_set (i := 4) sc.nd rfl (Or.inl rfl) pe_non)
      (pss_cons (ps_if (pt_cmpR op_isNotU (pe_dget (hu_of hr) (pv 0) pe_str (fun _ _ => rfl)) pe_non (nomark _)) (pss_one (ps_set (i := 4) sc.nd rfl (Or.inl rfl) (pe_slice (kSl (K := K) rfl) (pe_dget (hu_of hr) (pv 0) pe_str (fun _ _ => rfl)) (po_some (pe_op op_sub (pv 1) pe_int)) (po_some (pv 2))))) pss_nil)
      (pss_one (ps_ret (pe_mut (pe_disp (pps_cons pe_str (pe_op op_sub (pe_op (kAdd (K := K) rfl) (pv 2) pe_int) (pv 1)) (pps_cons pe_str (pe_slice (kSl (K := K) rfl) (pe_dget (hu_of hr) (pv 0) pe_str (fun _ _ => rfl)) (po_some (pe_op op_sub (pv 1) pe_int)) (po_some (pv 2))) (pps_cons pe_str (pe_dget (hu_of hr) (pv 0) pe_str (fun _ _ => rfl)) (pps_cons pe_str (pv 3) (pps_cons pe_str (pv 4) (pps_cons pe_str (pe_dget (hu_of hr) (pv 0) pe_str (fun _ _ => rfl)) pps_nil)))))) (by rfl) (by rfl) (fun z => by cases z) (by decide))))))))), fun es M Q X h => ?_⟩
  · obtain ⟨i, j, w, rfl, rfl, h1, h2, h3, h4, k⟩ := h
    all_goals rfl
  · obtain ⟨i, j, w, rfl, rfl, h1, h2, h3, h4, k⟩ := h
    all_goals try simp only [cx_K, cx_Kx]
    all_goals fail "zg"
    have wk_0 := wk_hops w
    have wk_1 := wk_makes w
    have wk_2 := wk_kind w
    have wk_3 := wk_spans w
    have wk_4 := wk_links w
    have wk_5 := wk_lossy w
    
    have hi : (0 : Int) ≤ i - 1 := by omega
    have hj : (0 : Int) ≤ j := by omega
    have hsl := h1.sl
    have hmc := h1.mc
    have hll := h1.ll
    have hn := h1.n2
    unfold partW at k
    obtain ⟨hops, makes, kind, spans, links, lossy⟩ := w
    dsimp only at *
    rcases spans with _ | l <;> rcases links with _ | ll <;> dsimp only [spD, odlE, Option.map_none, Option.map_some] at *
    all_goals try have hl1 := hsl _ rfl
    all_goals try have hl2 := hll _ rfl
    all_goals try have hl3 : l.length = hops.toNat + 1 := by omega
    all_goals fail "z"
    all_goals first
      | (rw [cutD_map hi hj] at k ⊢; exact k)
      | (rw [cutD_map hi hj, cutD_map hi hj]; exact k)
      | (rw [cutD_map hi hj]; exact k)
      | (rw [cutD_map hi hj, cutD_end hl3]; simp only [List.length_map, List.length_drop, List.length_take, sizeLine]; omega)
      | (rw [cutD_map hi hj, cutD_map hi hj, cutD_end hl3, ← List.map_append]; exact k)
      | (rw [cutD_map hi hj, cutD_map hi hj, cutD_map hi hj, cutD_end hl3, ← List.map_append]; exact k)
      | trace_state
local macro_rules | `(tactic| focus fail "zk") => `(tactic| with_reducible refine k_l_part ?_ ?_ ?_ ?_ ?_)
def c_read_number (K : PySem.W.Frag) : ASp := fun es M Q X => ∃ (text : Str), es = [.d (.str text)] ∧ M = [] ∧ (text.length ≤ 100000) ∧ (Q (.d (oi (num text))) [])
theorem k_read_number {K : PySem.W.Frag} {text : Str} {Q : Ent → Ms → Prop} {X : Xa} (h1 : text.length ≤ 100000) (q_ : Q (.d (oi (num text))) []) : c_read_number K [.d (.str text)] [] Q X := ⟨text, rfl, rfl, h1, q_⟩
theorem sc_read_number : FnScope ["text"] ["text"] (defScope (topS 6)) := ⟨rfl, rfl, rfl, by decide +kernel, rfl, by decide +kernel, by decide +kernel⟩
theorem ca_read_number (T : Top fa fn K mg) : Ca P w K mg base CX0 "read_number" (topS 6) 2 ["text"] (c_read_number K) := by
  have sc := sc_read_number
  refine ca_of T 24 74 rfl rfl (fun _ _ _ _ _ _ us hl => by exact match us, hl with | [_], _ => rfl) fun fd F => fn_ok F sc (fun es M Q X h => ?_) fun cdv A outer s H E hr => ⟨_, (pss_cons (ps_if (PW.pt (pw_or (pt_not (pt_chain op_leU op_leU pe_int (pe_callB (kLen (K := K) rfl) (by rfl) (T.free 25 rfl) (by decide +kernel) (pa_cons (pv 0) pa_nil)) (C8.pe_gc rfl (T.int 72 rfl)))) (pw_or1 (pt_not (kt_tru (K := K) rfl (ke_ca (K := K) rfl (ca_consists_of (w := w) (base := base) T) hr (by decide) rfl passN (pa_cons (pv 0) (pa_cons (C8.pe_gc rfl (T.str 73 rfl)) pa_nil))) (by intro _; rfl)))))) (pss_one (ps_ret pe_non)) pss_nil)
      (pss_cons (ps_if (PW.pt (pw_and (pt_cmpR (kEq (K := K) rfl hr.units) (pe_ix (kIx (K := K) rfl) (pv 0) pe_int (fun _ _ => rfl)) pe_str (nomark _)) (pw_and1 (pt_cmpR (kNe (K := K) rfl hr.units) (pv 0) pe_str (nomark _))))) (pss_one (ps_ret pe_non)) pss_nil)
      (pss_one (ps_ret (pe_callTy call_intU (by rfl) (T.free 65 rfl) (by decide +kernel) (pa_cons (pv 0) pa_nil)))))), fun es M Q X h => ?_⟩
  · obtain ⟨text, rfl, rfl, h1, k⟩ := h
    all_goals rfl
  · obtain ⟨text, rfl, rfl, h1, k⟩ := h
    all_goals try simp only [cx_K, cx_Kx]
    all_goals fail "zg"
    have nf : digB text = false → num text = none := fun h => by unfold num; rw [h]; rfl
    cases hcs : cs text with
    | nil =>
      have h0 : text.length = 0 := by rw [len_cs, hcs]; rfl
      fail "z"
      all_goals first
        | (exfalso; omega)
        | (refine q_of k ?_ rfl; rw [nf (by simp [digB, hcs])])
    | cons c0 r0 =>
      have hl : text.length = r0.length + 1 := by rw [len_cs, hcs]; rfl
      have hl2 : (cs text).length = r0.length + 1 := by rw [hcs]; rfl
      have q2 : decide (1 ≤ (cs text).length) = true := decide_eq_true (by omega)
      fail "z"
      · rename_i hb1 hb2 hb3
        refine q_of k ?_ rfl
        rw [nf (by unfold digB; rw [hb3]; simp)]
        try rfl
      · rename_i hb1 hb2 hb3
        have q3 : decide ((cs text).length ≤ 6) = true := decide_eq_true (by omega)
        refine o_ixS (c := c0) (by rw [sizeLine]; omega) (atI_nat' (by decide) (by show (cs text)[0]? = _; rw [hcs]; rfl)) ?_
        have hh : (cs text).head? = some c0 := by rw [hcs]; rfl
        have e9 : (({ cps := #[c0] } : Str) = Str.ofString "0") ↔ c0 = 48 := str_one_inj (d := 48)
        fail "z"
        · rename_i hb4 hb5
          refine q_of k ?_ rfl
          have h48 : (cs text).head? = some 48 := by rw [hh, e9.mp hb4]
          rw [nf (by unfold digB; rw [h48, decide_eq_false hb5]; simp)]
          try rfl
        · rename_i hb4 hb5
          have hd : digB text = true := by
            unfold digB
            rw [q2, q3, hb3, decide_eq_true (show text = "0" from hb5)]
            try simp
          refine n_intS (dig_int hd) (by omega) ?_
          fail "z"
          refine q_of k ?_ rfl
          unfold num
          rw [if_pos hd]
          try rfl
        · rename_i hb4 hb5
          have hd : digB text = true := by
            unfold digB
            rw [q2, q3, hb3, hh, decide_eq_false (show ¬ some c0 = some 48 from fun q => hb4 (e9.mpr (Option.some.inj q)))]
            try simp
          refine n_intS (dig_int hd) (by omega) ?_
          fail "z"
          refine q_of k ?_ rfl
          unfold num
          rw [if_pos hd]
          try rfl
      · rename_i hb1 hb2 hb3
        refine q_of k ?_ rfl
        have q3 : decide ((cs text).length ≤ 6) = false := decide_eq_false (by omega)
        rw [nf (by unfold digB; rw [q3]; simp)]
        try rfl
theorem kk_read_number {K : PySem.W.Frag} {text : Str} {Q : Ent → Ms → Prop} {X : Xa} (h : text.length ≤ 100000) (q1 : num text = none → Q (.d .none) []) (q2 : ∀ v, num text = some v → Q (.d (.int v)) []) : c_read_number K [.d (.str text)] [] Q X := by
  refine k_read_number h ?_
  cases e : num text with
  | none => exact q1 e
  | some v => exact q2 v e
local macro_rules | `(tactic| focus fail "zk") => `(tactic| with_reducible refine kk_read_number ?_ ?_ ?_)
def c_is_allowed_or_none (K : PySem.W.Frag) : ASp := fun es M Q X => ∃ (number : Option Int), es = [.d (oi number)] ∧ M = [] ∧ (Q (.d (.bool (inRo number))) [])
theorem k_is_allowed_or_none {K : PySem.W.Frag} {number : Option Int} {Q : Ent → Ms → Prop} {X : Xa}  (q_ : Q (.d (.bool (inRo number))) []) : c_is_allowed_or_none K [.d (oi number)] [] Q X := ⟨number, rfl, rfl, q_⟩
theorem sc_is_allowed_or_none : FnScope ["number"] ["number"] (defScope (topS 23)) := ⟨rfl, rfl, rfl, by decide +kernel, rfl, by decide +kernel, by decide +kernel⟩
theorem ca_is_allowed_or_none (T : Top fa fn K mg) : Ca P w K mg base CX0 "is_allowed_or_none" (topS 23) 2 ["number"] (c_is_allowed_or_none K) := by
  have sc := sc_is_allowed_or_none
  refine ca_of T 25 75 rfl rfl (fun _ _ _ _ _ _ us hl => by exact match us, hl with | [_], _ => rfl) fun fd F => fn_ok F sc (fun es M Q X h => ?_) fun cdv A outer s H E hr => ⟨_, (pss_one (ps_ret (ke_or (K := K) rfl (pe_cmpR op_isV (pv 0) pe_non (nomark _)) (pe_one (ke_ca (K := K) rfl (ca_is_allowed (w := w) (base := base) T) hr (by decide) rfl passN (pa_cons (pv 0) pa_nil)))))), fun es M Q X h => ?_⟩
  · obtain ⟨number, rfl, rfl, k⟩ := h
    all_goals rfl
  · obtain ⟨number, rfl, rfl, k⟩ := h
    all_goals try simp only [cx_K, cx_Kx]
    all_goals fail "zg"
    cases number with
    | none =>
      fail "z"
      all_goals exact k
    | some v =>
      fail "z"
      all_goals exact k
theorem kS_is_allowed_or_none {K : PySem.W.Frag} {v : Int} {Q : Ent → Ms → Prop} {X : Xa} (q : Q (.d (.bool (inR v))) []) : c_is_allowed_or_none K [.d (.int v)] [] Q X := k_is_allowed_or_none (number := some v) q
theorem kN_is_allowed_or_none {K : PySem.W.Frag} {Q : Ent → Ms → Prop} {X : Xa} (q : Q (.d (.bool true)) []) : c_is_allowed_or_none K [.d .none] [] Q X := k_is_allowed_or_none (number := none) q
local macro_rules | `(tactic| focus fail "zk") => `(tactic| with_reducible refine kS_is_allowed_or_none ?_)
local macro_rules | `(tactic| focus fail "zk") => `(tactic| with_reducible refine kN_is_allowed_or_none ?_)
local macro_rules | `(tactic| focus fail "zk") => `(tactic| with_reducible refine k_is_allowed_or_none ?_)
def c_Make_allowance (K : PySem.W.Frag) : ASp := fun es M Q X => ∃ (slfw : Nat), ∃ (slf : MakeR), ∃ (w : DirR), ∃ (d : DirR), es = [.d (makeD K slfw slf), .d (dirD K w), .d (dirD K d)] ∧ M = [] ∧ (slfw ≠ 1) ∧ (Q (.d (oi (allowM slf w d))) [])
theorem k_Make_allowance {K : PySem.W.Frag} {slfw : Nat} {slf : MakeR} {w : DirR} {d : DirR} {Q : Ent → Ms → Prop} {X : Xa} (h1 : slfw ≠ 1) (q_ : Q (.d (oi (allowM slf w d))) []) : c_Make_allowance K [.d (makeD K slfw slf), .d (dirD K w), .d (dirD K d)] [] Q X := ⟨slfw, slf, w, d, rfl, rfl, h1, q_⟩
theorem sc_Make_allowance : FnScope ["self", "wish", "directives"] ["self", "wish", "directives"] (defScope (inClass (topS 43) 8)) := ⟨rfl, rfl, rfl, by decide +kernel, rfl, by decide +kernel, by decide +kernel⟩
theorem fk_Make_allowance {f : Addr} {fd : FuncData} (T : Top fa fn K mg) (F : FunD K "allowance" "Make.allowance" (defArgs (inClass (topS 43) 8)) (defBody (inClass (topS 43) 8)) (defScope (inClass (topS 43) 8)) (([] : List He.Dv).map (He.Dv.v K)) (([] : List (Str × He.Dv)).map fun q => (q.1, q.2.v K)) f fd) : FnOk P w K mg base CX0 2 f fd ["self", "wish", "directives"] (spA K (c_Make_allowance K)) := by
  have sc := sc_Make_allowance
  refine fn_ok F sc (fun es M Q X h => ?_) fun cdv A outer s H E hr => ⟨_, (pss_cons (ps_if (kt_tru (K := K) rfl (ke_fld (f := "strict") (Cs := [He.ga K "Directives"]) (K := K) rfl (pv 2) (fo_cons (T.fact 60 rfl) (T.fact 78 rfl) fo_nil)) (by intro _; rfl)) (pss_one (ps_ret pe_int)) pss_nil)
      (pss_cons (ps_if (PW.pt (pw_or (pt_cmpR op_isV (ke_fld (f := "grace") (Cs := [He.ga K "Make", He.ga K "StrictMake", He.ga K "OwnMake"]) (K := K) rfl (pv 0) (fo_cons (T.fact 18 rfl) (T.fact 55 rfl) (fo_cons (T.fact 16 rfl) (T.fact 54 rfl) (fo_cons (T.fact 14 rfl) (T.fact 53 rfl) fo_nil)))) pe_non (nomark _)) (pw_or1 (kt_tru (K := K) rfl (ke_fld (f := "any_late") (Cs := [He.ga K "Directives"]) (K := K) rfl (pv 1) (fo_cons (T.fact 60 rfl) (T.fact 77 rfl) fo_nil)) (by intro _; rfl))))) (pss_one (ps_ret pe_non)) pss_nil)
      (pss_one (ps_ret (pe_callB (call_maxI rfl (fun _ _ _ => max_ok)) (by rfl) (T.free 59 rfl) (by decide +kernel) (pa_cons (ke_fld (f := "grace") (Cs := [He.ga K "Make", He.ga K "StrictMake", He.ga K "OwnMake"]) (K := K) rfl (pv 0) (fo_cons (T.fact 18 rfl) (T.fact 55 rfl) (fo_cons (T.fact 16 rfl) (T.fact 54 rfl) (fo_cons (T.fact 14 rfl) (T.fact 53 rfl) fo_nil)))) (pa_cons (ke_ca (K := K) rfl (ca_number_or_zero (w := w) (base := base) T) hr (by decide) rfl passN (pa_cons (ke_fld (f := "late") (Cs := [He.ga K "Directives"]) (K := K) rfl (pv 2) (fo_cons (T.fact 60 rfl) (T.fact 76 rfl) fo_nil)) pa_nil)) (pa_cons (ke_ca (K := K) rfl (ca_number_or_zero (w := w) (base := base) T) hr (by decide) rfl passN (pa_cons (ke_fld (f := "late") (Cs := [He.ga K "Directives"]) (K := K) rfl (pv 1) (fo_cons (T.fact 60 rfl) (T.fact 76 rfl) fo_nil)) pa_nil)) pa_nil)))))))), fun es M Q X h => ?_⟩
  · obtain ⟨slfw, slf, w, d, rfl, rfl, h1, k⟩ := h
    all_goals rfl
  · obtain ⟨slfw, slf, w, d, rfl, rfl, h1, k⟩ := h
    all_goals try simp only [cx_K, cx_Kx, cxS_K, cxS_Kx]
    all_goals fail "zg"
    obtain ⟨d1, d2, d3, d4, d5, d6, d7, d8, d9, d10, d11, d12⟩ := d
    obtain ⟨s1, gr, s2, s3, s4, s5, s6, s7, s8, s9⟩ := slf
    cases gr
    all_goals fail "z"
    all_goals first
      | (refine q_of k ?_ rfl; simp_all [allowM]; done)
      | trace_state
theorem cm_Make_allowance (T : Top fa fn K mg) : Cm P w K mg base CX0 ("Make", some "allowance") "allowance" "Make.allowance" (inClass (topS 43) 8) (([] : List He.Dv).map (He.Dv.v K)) (([] : List (Str × He.Dv)).map fun q => (q.1, q.2.v K)) 2 ["self", "wish", "directives"] (c_Make_allowance K) := cm_of T 26 rfl fun fd F => fk_Make_allowance T F
theorem cm_OwnMake_allowance (T : Top fa fn K mg) : Cm P w K mg base CX0 ("OwnMake", some "allowance") "allowance" "Make.allowance" (inClass (topS 43) 8) (([] : List He.Dv).map (He.Dv.v K)) (([] : List (Str × He.Dv)).map fun q => (q.1, q.2.v K)) 2 ["self", "wish", "directives"] (c_Make_allowance K) := cm_of T 27 rfl fun fd F => fk_Make_allowance T F
theorem kk_Make_allowance {K : PySem.W.Frag} {slfw : Nat} {slf : MakeR} {w d : DirR} {Q : Ent → Ms → Prop} {X : Xa} (h1 : slfw ≠ 1) (q1 : allowM slf w d = none → Q (.d .none) []) (q2 : ∀ v, allowM slf w d = some v → Q (.d (.int v)) []) : c_Make_allowance K [.d (makeD K slfw slf), .d (dirD K w), .d (dirD K d)] [] Q X := by
  refine k_Make_allowance h1 ?_
  cases e : allowM slf w d with
  | none => exact q1 e
  | some v => exact q2 v e
local macro_rules | `(tactic| focus fail "zk") => `(tactic| with_reducible refine k_Make_allowance ?_ ?_)
local macro_rules | `(tactic| focus fail "zk") => `(tactic| with_reducible refine kk_Make_allowance ?_ ?_ ?_)
def c_l_make_row (K : PySem.W.Frag) : ASp := fun es M Q X => ∃ (a : Int), ∃ (b : Int), ∃ (n : Int), es = [.r 0] ∧ M = [some (Pu a b n)] ∧ (0 ≤ b) ∧ (b < 2147483629) ∧ (0 ≤ n) ∧ (n ≤ 99989) ∧ (∀ (r : MkRow) (a2 n2 : Int), n ≤ n2 → n2 ≤ n + 11 → okMk r → Q (.d (rowD r)) [some (Pu a2 b n2)])
theorem k_l_make_row {K : PySem.W.Frag} {a : Int} {b : Int} {n : Int} {Q : Ent → Ms → Prop} {X : Xa} (h1 : 0 ≤ b) (h2 : b < 2147483629) (h3 : 0 ≤ n) (h4 : n ≤ 99989) (q_ : ∀ (r : MkRow) (a2 n2 : Int), n ≤ n2 → n2 ≤ n + 11 → okMk r → Q (.d (rowD r)) [some (Pu a2 b n2)]) : c_l_make_row K [.r 0] [some (Pu a b n)] Q X := ⟨a, b, n, rfl, rfl, h1, h2, h3, h4, q_⟩
theorem sc_l_make_row : FnScope ["_law_purse_here", "_law_sort"] ["_law_purse_here"] (defScope (topS 49)) := ⟨rfl, rfl, rfl, by decide +kernel, rfl, by decide +kernel, by decide +kernel⟩
theorem ca_l_make_row (T : Top fa fn K mg) : Ca P w K mg base CX0 "_law_make_row" (topS 49) 2 ["_law_purse_here"] (c_l_make_row K) := by
  have sc := sc_l_make_row
  refine ca_of T 28 79 rfl rfl (fun _ _ _ _ _ _ us hl => by exact match us, hl with | [_], _ => rfl) fun fd F => fn_ok F sc (fun es M Q X h => ?_) fun cdv A outer s H E hr => ⟨_, (pss_cons (ps_set (i := 1) sc.nd rfl (Or.inl rfl) (ke_ca (K := K) rfl (ca_l_take (w := w) (base := base) T) hr (by decide) rfl passN (pa_cons (pv 0) (pa_cons pe_int pa_nil))))
      (pss_cons (ps_if (pt_cmpR (kEq (K := K) rfl hr.units) (pv 1) pe_int (nomark _)) (pss_one (ps_ret (pe_tup (pa_cons pe_int (pa_cons pe_bl (pa_cons pe_int (pa_cons pe_int (pa_cons pe_bl (pa_cons pe_bl (pa_cons pe_bl (pa_cons pe_bl (pa_cons pe_int (pa_cons pe_int (pa_cons pe_int pa_nil)))))))))))))) pss_nil)
      (pss_one (ps_ret (pe_tup (pa_cons (pv 1) (pa_cons (ke_and (K := K) rfl (pe_cmpR op_gtU (ke_ca (K := K) rfl (ca_l_take (w := w) (base := base) T) hr (by decide) rfl passN (pa_cons (pv 0) (pa_cons pe_int pa_nil))) pe_int (nomark _)) (pe_one (pe_cmpR (kNe (K := K) rfl hr.units) (pv 1) pe_int (nomark _)))) (pa_cons (pe_ix (kIx (K := K) rfl) (pe_lst (pa_cons pe_int (pa_cons pe_int (pa_cons pe_int (pa_cons pe_int (pa_cons pe_int (pa_cons pe_non pa_nil))))))) (ke_ca (K := K) rfl (ca_l_take (w := w) (base := base) T) hr (by decide) rfl passN (pa_cons (pv 0) (pa_cons pe_int pa_nil))) (fun _ _ => rfl)) (pa_cons (pe_ix (kIx (K := K) rfl) (pe_lst (pa_cons pe_int (pa_cons pe_int (pa_cons pe_int (pa_cons pe_int pa_nil))))) (ke_ca (K := K) rfl (ca_l_take (w := w) (base := base) T) hr (by decide) rfl passN (pa_cons (pv 0) (pa_cons pe_int pa_nil))) (fun _ _ => rfl)) (pa_cons (pe_cmpR op_gtU (ke_ca (K := K) rfl (ca_l_take (w := w) (base := base) T) hr (by decide) rfl passN (pa_cons (pv 0) (pa_cons pe_int pa_nil))) pe_int (nomark _)) (pa_cons (pe_cmpR (kEq (K := K) rfl hr.units) (ke_ca (K := K) rfl (ca_l_take (w := w) (base := base) T) hr (by decide) rfl passN (pa_cons (pv 0) (pa_cons pe_int pa_nil))) pe_int (nomark _)) (pa_cons (pe_cmpR op_gtU (ke_ca (K := K) rfl (ca_l_take (w := w) (base := base) T) hr (by decide) rfl passN (pa_cons (pv 0) (pa_cons pe_int pa_nil))) pe_int (nomark _)) (pa_cons (pe_cmpR (kEq (K := K) rfl hr.units) (ke_ca (K := K) rfl (ca_l_take (w := w) (base := base) T) hr (by decide) rfl passN (pa_cons (pv 0) (pa_cons pe_int pa_nil))) pe_int (nomark _)) (pa_cons (ke_ca (K := K) rfl (ca_l_take (w := w) (base := base) T) hr (by decide) rfl passN (pa_cons (pv 0) (pa_cons pe_int pa_nil))) (pa_cons (ke_ca (K := K) rfl (ca_l_take (w := w) (base := base) T) hr (by decide) rfl passN (pa_cons (pv 0) (pa_cons pe_int pa_nil))) (pa_cons (pe_op (kAdd (K := K) rfl) pe_int (ke_ca (K := K) rfl (ca_l_take (w := w) (base := base) T) hr (by decide) rfl passN (pa_cons (pv 0) (pa_cons pe_int pa_nil)))) pa_nil)))))))))))))))), fun es M Q X h => ?_⟩
  · obtain ⟨a, b, n, rfl, rfl, h1, h2, h3, h4, k⟩ := h
    all_goals rfl
  · obtain ⟨a, b, n, rfl, rfl, h1, h2, h3, h4, k⟩ := h
    all_goals try simp only [cx_K, cx_Kx]
    all_goals fail "zg"
    have hsh : ∀ d : Int, d = 5 → (!decide (d = 5)) = false := fun d h => by rw [decide_eq_true h]; rfl
    have hsh2 : ∀ d e : Int, ¬ 0 < d → e = 5 → decide (0 < d) = false := fun d e h _ => decide_eq_false h
    fail "z"
    all_goals first
      | exact k ⟨3, true, some 0, 0, true, false, true, false, 0, 0, 8⟩ _ _ (by omega) (by omega) ⟨by decide, by decide, fun g e => by cases e; decide, by decide, by decide, by decide, by decide⟩
      | exact k ⟨_, _, _, _, _, _, _, _, _, _, _⟩ _ _ (by omega) (by omega) ⟨⟨by assumption, by dsimp only; omega⟩, hsh _, gr_ok (by assumption), eg_ok (by assumption), ⟨by assumption, by dsimp only; omega⟩, by assumption, ⟨by dsimp only; omega, by dsimp only; omega⟩⟩
      | exact k ⟨_, _, _, _, _, _, _, _, _, _, _⟩ _ _ (by omega) (by omega) ⟨⟨by assumption, by dsimp only; omega⟩, hsh2 _ _ (by assumption), gr_ok (by assumption), eg_ok (by assumption), ⟨by assumption, by dsimp only; omega⟩, by assumption, ⟨by dsimp only; omega, by dsimp only; omega⟩⟩
      | trace_state
local macro_rules | `(tactic| focus fail "zk") => `(tactic| with_reducible refine k_l_make_row ?_ ?_ ?_ ?_ ?_)
def c_l_kind_row (K : PySem.W.Frag) : ASp := fun es M Q X => ∃ (far : Bool), ∃ (extra : Int), ∃ (sp : Option (List (Int × Int))), ∃ (a : Int), ∃ (b : Int), ∃ (n : Int), es = [.r 0, .d (.bool far), .d (.int extra), .d (spD sp)] ∧ M = [some (Pu a b n)] ∧ (0 ≤ b) ∧ (b < 2147483629) ∧ (0 ≤ n) ∧ (n ≤ 99980) ∧ (0 ≤ extra) ∧ (extra ≤ 1000) ∧ (SpNe sp) ∧ (∀ (kd : KindR) (a2 n2 : Int), n ≤ n2 → n2 ≤ n + 20 → RGood kd → kSmall kd → Q (.d (kdD kd)) [some (Pu a2 b n2)])
theorem k_l_kind_row {K : PySem.W.Frag} {far : Bool} {extra : Int} {sp : Option (List (Int × Int))} {a : Int} {b : Int} {n : Int} {Q : Ent → Ms → Prop} {X : Xa} (h1 : 0 ≤ b) (h2 : b < 2147483629) (h3 : 0 ≤ n) (h4 : n ≤ 99980) (h5 : 0 ≤ extra) (h6 : extra ≤ 1000) (h7 : SpNe sp) (q_ : ∀ (kd : KindR) (a2 n2 : Int), n ≤ n2 → n2 ≤ n + 20 → RGood kd → kSmall kd → Q (.d (kdD kd)) [some (Pu a2 b n2)]) : c_l_kind_row K [.r 0, .d (.bool far), .d (.int extra), .d (spD sp)] [some (Pu a b n)] Q X := ⟨far, extra, sp, a, b, n, rfl, rfl, h1, h2, h3, h4, h5, h6, h7, q_⟩
theorem sc_l_kind_row : FnScope ["_law_purse_here", "_law_far", "_law_extra", "_law_spans", "_law_life", "_law_wide", "_law_row", "_law_least", "_law_near"] ["_law_purse_here", "_law_far", "_law_extra", "_law_spans"] (defScope (topS 50)) := ⟨rfl, rfl, rfl, by decide +kernel, rfl, by decide +kernel, by decide +kernel⟩
theorem ca_l_kind_row (T : Top fa fn K mg) : Ca P w K mg base CX0 "_law_kind_row" (topS 50) 2 ["_law_purse_here", "_law_far", "_law_extra", "_law_spans"] (c_l_kind_row K) := by
  have sc := sc_l_kind_row
  refine ca_of T 29 80 rfl rfl (fun _ _ _ _ _ _ us hl => by exact match us, hl with | [_, _, _, _], _ => rfl) fun fd F => fn_ok F sc (fun es M Q X h => ?_) fun cdv A outer s H E hr => ⟨_, (pss_cons (ps_set (i := 4) sc.nd rfl (Or.inl rfl) (ke_ca (K := K) rfl (ca_l_take (w := w) (base := base) T) hr (by decide) rfl passN (pa_cons (pv 0) (pa_cons pe_int pa_nil))))
      (pss_cons (ps_join (ps_if (kt_tru (K := K) rfl (pv 1) (by intro _; rfl)) (pss_one (ps_set (i := 4) sc.nd rfl (Or.inl rfl) (pe_op (kAdd (K := K) rfl) (pv 4) (ke_ca (K := K) rfl (ca_l_take (w := w) (base := base) T) hr (by decide) rfl passN (pa_cons (pv 0) (pa_cons (pe_op (kAdd (K := K) rfl) (pv 2) pe_int) pa_nil)))))) pss_nil))
      (pss_cons (ps_set (i := 5) sc.nd rfl (Or.inl rfl) pe_non)
      (pss_cons (ps_join (ps_if (pt_cmpR (kEq (K := K) rfl hr.units) (ke_ca (K := K) rfl (ca_l_take (w := w) (base := base) T) hr (by decide) rfl passN (pa_cons (pv 0) (pa_cons pe_int pa_nil))) pe_int (nomark _)) (pss_one (ps_set (i := 5) sc.nd rfl (Or.inl rfl) (ke_ca (K := K) rfl (ca_l_take (w := w) (base := base) T) hr (by decide) rfl passN (pa_cons (pv 0) (pa_cons pe_int pa_nil))))) pss_nil))
      (pss_cons (ps_join (ps_if (pt_cmpR (kEq (K := K) rfl hr.units) (ke_ca (K := K) rfl (ca_l_take (w := w) (base := base) T) hr (by decide) rfl passN (pa_cons (pv 0) (pa_cons pe_int pa_nil))) pe_int (nomark _)) (pss_one (ps_set (i := 4) sc.nd rfl (Or.inl rfl) pe_non)) pss_nil))
      (pss_cons (ps_set (i := 6) sc.nd rfl (Or.inl rfl) (pe_tup (pa_cons (pv 4) (pa_cons (pv 5) (pa_cons (pe_ix (kIx (K := K) rfl) (pe_lst (pa_cons pe_int (pa_cons pe_int (pa_cons pe_int (pa_cons pe_int (pa_cons pe_int pa_nil)))))) (ke_ca (K := K) rfl (ca_l_take (w := w) (base := base) T) hr (by decide) rfl passN (pa_cons (pv 0) (pa_cons pe_int pa_nil))) (fun _ _ => rfl)) (pa_cons (pe_ix (kIx (K := K) rfl) (pe_lst (pa_cons pe_int (pa_cons pe_int (pa_cons pe_int (pa_cons pe_int (pa_cons pe_int pa_nil)))))) (ke_ca (K := K) rfl (ca_l_take (w := w) (base := base) T) hr (by decide) rfl passN (pa_cons (pv 0) (pa_cons pe_int pa_nil))) (fun _ _ => rfl)) (pa_cons (pe_cmpR (kEq (K := K) rfl hr.units) (ke_ca (K := K) rfl (ca_l_take (w := w) (base := base) T) hr (by decide) rfl passN (pa_cons (pv 0) (pa_cons pe_int pa_nil))) pe_int (nomark _)) (pa_cons (pe_cmpR (kEq (K := K) rfl hr.units) (ke_ca (K := K) rfl (ca_l_take (w := w) (base := base) T) hr (by decide) rfl passN (pa_cons (pv 0) (pa_cons pe_int pa_nil))) pe_int (nomark _)) (pa_cons (pe_cmpR (kEq (K := K) rfl hr.units) (ke_ca (K := K) rfl (ca_l_take (w := w) (base := base) T) hr (by decide) rfl passN (pa_cons (pv 0) (pa_cons pe_int pa_nil))) pe_int (nomark _)) (pa_cons (pe_cmpR (kEq (K := K) rfl hr.units) (ke_ca (K := K) rfl (ca_l_take (w := w) (base := base) T) hr (by decide) rfl passN (pa_cons (pv 0) (pa_cons pe_int pa_nil))) pe_int (nomark _)) (pa_cons (pe_ix (kIx (K := K) rfl) (pe_lst (pa_cons pe_str (pa_cons pe_str (pa_cons pe_str (pa_cons pe_str (pa_cons pe_str (pa_cons pe_str pa_nil))))))) (ke_ca (K := K) rfl (ca_l_take (w := w) (base := base) T) hr (by decide) rfl passN (pa_cons (pv 0) (pa_cons pe_int pa_nil))) (fun _ _ => rfl)) (pa_cons (pe_cmpR (kEq (K := K) rfl hr.units) (ke_ca (K := K) rfl (ca_l_take (w := w) (base := base) T) hr (by decide) rfl passN (pa_cons (pv 0) (pa_cons pe_int pa_nil))) pe_int (nomark _)) pa_nil))))))))))))
      (pss_cons (ps_set (i := 7) sc.nd rfl (Or.inl rfl) (ke_ca (K := K) rfl (ca_l_take (w := w) (base := base) T) hr (by decide) rfl passN (pa_cons (pv 0) (pa_cons pe_int pa_nil))))
      (pss_cons (ps_set (i := 8) sc.nd rfl (Or.inl rfl) (ke_ca (K := K) rfl (ca_l_take (w := w) (base := base) T) hr (by decide) rfl passN (pa_cons (pv 0) (pa_cons pe_int pa_nil))))
      (pss_cons (ps_join (ps_if (PW.pt (pw_and (pt_cmpR op_ltU (pv 8) pe_int (nomark _)) (pw_and1 (pt_cmpR op_isNotU (pv 3) pe_non (nomark _))))) (pss_one (ps_set (i := 7) sc.nd rfl (Or.inl rfl) (pe_callB (call_max2 rfl) (by rfl) (T.free 59 rfl) (by decide +kernel) (pa_cons pe_int (pa_cons (pe_op (kAdd (K := K) rfl) (pe_op op_sub (pe_op (kAdd (K := K) rfl) (pe_ix (kIx (K := K) rfl) (pe_ix (kIx (K := K) rfl) (pv 3) (pe_un un_neg pe_int) (fun _ _ => rfl)) pe_int (fun _ _ => rfl)) (pe_ix (kIx (K := K) rfl) (pe_ix (kIx (K := K) rfl) (pv 3) (pe_un un_neg pe_int) (fun _ _ => rfl)) pe_int (fun _ _ => rfl))) pe_int) (pv 8)) pa_nil))))) pss_nil))
      (pss_one (ps_ret (pe_op (kAdd (K := K) rfl) (pv 6) (pe_tup (pa_cons (pv 7) pa_nil)))))))))))))), fun es M Q X h => ?_⟩
  · obtain ⟨far, extra, sp, a, b, n, rfl, rfl, h1, h2, h3, h4, h5, h6, h7, k⟩ := h
    all_goals rfl
  · obtain ⟨far, extra, sp, a, b, n, rfl, rfl, h1, h2, h3, h4, h5, h6, h7, k⟩ := h
    all_goals try simp only [cx_K, cx_Kx]
    all_goals fail "zg"
    rcases sp with _ | l
    · fail "z"
      refine s_join0 (fun Γ0 M0 Γ' M' => ∃ (v1 : Int) (a9 : Int) (n9 : Int), Γ' = upG Γ0 [(4, some (.d (.int v1)))] ∧ M' = [some (Pu a9 b n9)] ∧ (0 ≤ v1 ∧ v1 ≤ 5 + extra) ∧ (n ≤ n9 ∧ n9 ≤ n + 2)) ?_ ?_
      · fail "z"
        all_goals first
          | exact ⟨_, _, _, rfl, rfl, ⟨by omega, by omega⟩, ⟨by omega, by omega⟩⟩
          | omega
          | trace_state
      · rintro Γ' M' ⟨v1, a9, n9, rfl, rfl, f1, f2⟩
        fail "zg"
        fail "z"
        refine s_join0 (fun Γ0 M0 Γ' M' => ∃ (wd : Option Int) (a8 : Int) (n8 : Int), Γ' = upG Γ0 [(5, some (.d (oi wd)))] ∧ M' = [some (Pu a8 b n8)] ∧ (∀ v, wd = some v → 0 ≤ v ∧ v ≤ 6) ∧ (n ≤ n8 ∧ n8 ≤ n + 4)) ?_ ?_
        · fail "z"
          all_goals first
            | exact ⟨none, _, _, rfl, rfl, fun v e => (nomatch e), ⟨by omega, by omega⟩⟩
            | exact ⟨some _, _, _, rfl, rfl, fun v e => by cases e; omega, ⟨by omega, by omega⟩⟩
            | omega
            | trace_state
        · rintro Γ' M' ⟨wd, a8, n8, rfl, rfl, f1, f2⟩
          fail "zg"
          fail "z"
          refine s_join0 (fun Γ0 M0 Γ' M' => ∃ (lf : Option Int) (a7 : Int) (n7 : Int), Γ' = upG Γ0 [(4, some (.d (oi lf)))] ∧ M' = [some (Pu a7 b n7)] ∧ (∀ v, lf = some v → 0 ≤ v ∧ v ≤ 5 + extra) ∧ (n ≤ n7 ∧ n7 ≤ n + 5)) ?_ ?_
          · fail "z"
            all_goals first
              | exact ⟨none, _, _, rfl, rfl, fun v e => (nomatch e), ⟨by omega, by omega⟩⟩
              | exact ⟨some _, _, _, rfl, rfl, fun v e => by cases e; omega, ⟨by omega, by omega⟩⟩
              | omega
              | trace_state
          · rintro Γ' M' ⟨lf, a7, n7, rfl, rfl, f1, f2⟩
            fail "zg"
            fail "z"
            refine s_join0 (fun Γ0 M0 Γ' M' => ∃ (ls : Int) (a6 : Int) (n6 : Int), Γ' = upG Γ0 [(7, some (.d (.int ls)))] ∧ M' = [some (Pu a6 b n6)] ∧ (0 ≤ ls ∧ ls ≤ 3000) ∧ (n ≤ n6 ∧ n6 ≤ n + 15)) ?_ ?_
            · fail "z"
              all_goals first
                | exact ⟨_, _, _, rfl, rfl, ⟨by omega, by omega⟩, ⟨by omega, by omega⟩⟩
                | omega
                | trace_state
            · rintro Γ' M' ⟨ls, a6, n6, rfl, rfl, f1, f2⟩
              fail "zg"
              fail "z"
              all_goals first
                | exact k ⟨lf, wd, _, _, _, _, _, _, _, _, ls⟩ _ _ (by omega) (by omega) (kr_ok (by assumption) (by assumption) h6 (lt_ok (by assumption)) (oe_ok (by assumption)) (mk_ok (by assumption)) (by assumption)).1 (kr_ok (by assumption) (by assumption) h6 (lt_ok (by assumption)) (oe_ok (by assumption)) (mk_ok (by assumption)) (by assumption)).2
                | trace_state
    · obtain ⟨hl0, hlx⟩ := h7 l rfl
      clear h7
      obtain ⟨l0, p, rfl⟩ : ∃ l0 p, l = l0 ++ [p] := ⟨l.dropLast, l.getLast hl0, (List.dropLast_concat_getLast hl0).symm⟩
      have hp := hlx p (by simp)
      have e : spD (some (l0 ++ [p])) = .list (l0.map prI ++ [.tuple [.int p.1, .int p.2]]) := by simp [spD]
      clear hlx hl0
      rw [e] at *
      fail "z"
      refine s_join0 (fun Γ0 M0 Γ' M' => ∃ (v1 : Int) (a9 : Int) (n9 : Int), Γ' = upG Γ0 [(4, some (.d (.int v1)))] ∧ M' = [some (Pu a9 b n9)] ∧ (0 ≤ v1 ∧ v1 ≤ 5 + extra) ∧ (n ≤ n9 ∧ n9 ≤ n + 2)) ?_ ?_
      · fail "z"
        all_goals first
          | exact ⟨_, _, _, rfl, rfl, ⟨by omega, by omega⟩, ⟨by omega, by omega⟩⟩
          | omega
          | trace_state
      · rintro Γ' M' ⟨v1, a9, n9, rfl, rfl, f1, f2⟩
        fail "zg"
        fail "z"
        refine s_join0 (fun Γ0 M0 Γ' M' => ∃ (wd : Option Int) (a8 : Int) (n8 : Int), Γ' = upG Γ0 [(5, some (.d (oi wd)))] ∧ M' = [some (Pu a8 b n8)] ∧ (∀ v, wd = some v → 0 ≤ v ∧ v ≤ 6) ∧ (n ≤ n8 ∧ n8 ≤ n + 4)) ?_ ?_
        · fail "z"
          all_goals first
            | exact ⟨none, _, _, rfl, rfl, fun v e => (nomatch e), ⟨by omega, by omega⟩⟩
            | exact ⟨some _, _, _, rfl, rfl, fun v e => by cases e; omega, ⟨by omega, by omega⟩⟩
            | omega
            | trace_state
        · rintro Γ' M' ⟨wd, a8, n8, rfl, rfl, f1, f2⟩
          fail "zg"
          fail "z"
          refine s_join0 (fun Γ0 M0 Γ' M' => ∃ (lf : Option Int) (a7 : Int) (n7 : Int), Γ' = upG Γ0 [(4, some (.d (oi lf)))] ∧ M' = [some (Pu a7 b n7)] ∧ (∀ v, lf = some v → 0 ≤ v ∧ v ≤ 5 + extra) ∧ (n ≤ n7 ∧ n7 ≤ n + 5)) ?_ ?_
          · fail "z"
            all_goals first
              | exact ⟨none, _, _, rfl, rfl, fun v e => (nomatch e), ⟨by omega, by omega⟩⟩
              | exact ⟨some _, _, _, rfl, rfl, fun v e => by cases e; omega, ⟨by omega, by omega⟩⟩
              | omega
              | trace_state
          · rintro Γ' M' ⟨lf, a7, n7, rfl, rfl, f1, f2⟩
            fail "zg"
            fail "z"
            refine s_join0 (fun Γ0 M0 Γ' M' => ∃ (ls : Int) (a6 : Int) (n6 : Int), Γ' = upG Γ0 [(7, some (.d (.int ls)))] ∧ M' = [some (Pu a6 b n6)] ∧ (0 ≤ ls ∧ ls ≤ 3000) ∧ (n ≤ n6 ∧ n6 ≤ n + 15)) ?_ ?_
            · fail "z"
              all_goals first
                | exact ⟨_, _, _, rfl, rfl, ⟨by omega, by omega⟩, ⟨by omega, by omega⟩⟩
                | omega
                | trace_state
            · rintro Γ' M' ⟨ls, a6, n6, rfl, rfl, f1, f2⟩
              fail "zg"
              fail "z"
              all_goals first
                | exact k ⟨lf, wd, _, _, _, _, _, _, _, _, ls⟩ _ _ (by omega) (by omega) (kr_ok (by assumption) (by assumption) h6 (lt_ok (by assumption)) (oe_ok (by assumption)) (mk_ok (by assumption)) (by assumption)).1 (kr_ok (by assumption) (by assumption) h6 (lt_ok (by assumption)) (oe_ok (by assumption)) (mk_ok (by assumption)) (by assumption)).2
                | trace_state
local macro_rules | `(tactic| focus fail "zk") => `(tactic| with_reducible refine k_l_kind_row ?_ ?_ ?_ ?_ ?_ ?_ ?_ ?_)
def c_read_numbered (K : PySem.W.Frag) : ASp := fun es M Q X => ∃ (element : Str), es = [.d (.str element)] ∧ M = [] ∧ (element.length ≤ 100000) ∧ (Q (.d (oprD (rdn element))) [])
theorem k_read_numbered {K : PySem.W.Frag} {element : Str} {Q : Ent → Ms → Prop} {X : Xa} (h1 : element.length ≤ 100000) (q_ : Q (.d (oprD (rdn element))) []) : c_read_numbered K [.d (.str element)] [] Q X := ⟨element, rfl, rfl, h1, q_⟩
theorem sc_read_numbered : FnScope ["element", "name", "sign", "text", "number"] ["element"] (defScope (topS 11)) := ⟨rfl, rfl, rfl, by decide +kernel, rfl, by decide +kernel, by decide +kernel⟩
theorem ca_read_numbered (T : Top fa fn K mg) : Ca P w K mg base CX0 "read_numbered" (topS 11) 3 ["element"] (c_read_numbered K) := by
  have sc := sc_read_numbered
  refine ca_of T 30 85 rfl rfl (fun _ _ _ _ _ _ us hl => by exact match us, hl with | [_], _ => rfl) fun fd F => fn_ok F sc (fun es M Q X h => ?_) fun cdv A outer s H E hr => ⟨_, (pss_cons (ps_asg (pe_m1 PySem.F.slot_str_partition PySem.F.type_str_partition mt_partition (pv 0) pe_str) (pg_tup rfl (pgs_cons (pg_name (i := 1) sc.nd rfl (Or.inl rfl)) (pgs_cons (pg_name (i := 2) sc.nd rfl (Or.inl rfl)) (pgs_cons (pg_name (i := 3) sc.nd rfl (Or.inl rfl)) pgs_nil)))))
      (pss_cons (ps_if (pt_cmpR (kNotIn (K := K) rfl) (pv 1) (ke_tupC (K := K) rfl rfl (T.glo 83 rfl) (T.fact 84 rfl)) (by rfl)) (pss_one (ps_ret pe_non)) pss_nil)
      (pss_cons (ps_set (i := 4) sc.nd rfl (Or.inl rfl) (ke_ca (K := K) rfl (ca_read_number (w := w) (base := base) T) hr (by decide) rfl passN (pa_cons (pv 3) pa_nil)))
      (pss_cons (ps_if (pt_cmpR op_isNotU (pv 4) pe_non (nomark _)) (pss_one (ps_ret (pe_tup (pa_cons (pv 1) (pa_cons (pv 4) pa_nil))))) pss_nil)
      (pss_cons (ps_if (pt_cmpR (kIn (K := K) rfl) (pv 1) (ke_tupC (K := K) rfl rfl (T.glo 81 rfl) (T.fact 82 rfl)) (by rfl)) (pss_one (ps_ret (pe_tup (pa_cons (pv 1) (pa_cons pe_int pa_nil))))) pss_nil)
      (pss_one (ps_ret pe_non))))))), fun es M Q X h => ?_⟩
  · obtain ⟨element, rfl, rfl, h1, k⟩ := h
    all_goals rfl
  · obtain ⟨element, rfl, rfl, h1, k⟩ := h
    all_goals try simp only [cx_K, cx_Kx]
    all_goals fail "zg"
    have hp2 : (Txt.partition element (Str.ofString "=")).2.2.length ≤ element.length := by
      rcases cut_at element 61 with h | ⟨a, b, rfl, h⟩
      · rw [show Str.ofString "=" = (⟨#[61]⟩ : Str) from rfl, part_no h]
        exact Nat.zero_le _
      · rw [show Str.ofString "=" = (⟨#[61]⟩ : Str) from rfl, part_yes h, len_app, len_app]
        show b.length ≤ _
        omega
    have e : rdn element = rdnP (Txt.partition element (Str.ofString "=")) := rfl
    rw [e] at k
    fail "z"
    all_goals refine q_of k ?_ rfl
    all_goals clear k e
    all_goals (unfold rdnP; simp_all)
theorem kk_read_numbered {K : PySem.W.Frag} {text : Str} {Q : Ent → Ms → Prop} {X : Xa} (h : text.length ≤ 100000) (q1 : rdn text = none → Q (.d .none) []) (q2 : ∀ v, rdn text = some v → Q (.d (prD v)) []) : c_read_numbered K [.d (.str text)] [] Q X := by
  refine k_read_numbered h ?_
  cases e : rdn text with
  | none => exact q1 e
  | some v => exact q2 v e
local macro_rules | `(tactic| focus fail "zk") => `(tactic| with_reducible refine kk_read_numbered ?_ ?_ ?_)
def c_Kind___init__ (K : PySem.W.Frag) : ASp := fun es M Q X => ∃ (la : Option Int), ∃ (sl : Option Int), ∃ (lt : Int), ∃ (oe : Int), ∃ (st : Bool), ∃ (ch : Bool), ∃ (ow : Bool), ∃ (ne : Bool), ∃ (mk : Str), ∃ (da : Bool), ∃ (ma : Int), es = [.r 0, .d (oi la), .d (oi sl), .d (.int lt), .d (.int oe), .d (.bool st), .d (.bool ch), .d (.bool ow), .d (.bool ne), .d (.str mk), .d (.bool da), .d (.int ma)] ∧ M = [some (.ins (He.ga K "Kind") [])] ∧ (RGood ⟨la, sl, lt, oe, st, ch, ow, ne, mk, da, ma⟩) ∧ (Q (.d .none) [some (.ins (He.ga K "Kind") (kindF ⟨la, sl, lt, oe, st, ch, ow, ne, mk, da, ma⟩))])
theorem k_Kind___init__ {K : PySem.W.Frag} {la : Option Int} {sl : Option Int} {lt : Int} {oe : Int} {st : Bool} {ch : Bool} {ow : Bool} {ne : Bool} {mk : Str} {da : Bool} {ma : Int} {Q : Ent → Ms → Prop} {X : Xa} (h1 : RGood ⟨la, sl, lt, oe, st, ch, ow, ne, mk, da, ma⟩) (q_ : Q (.d .none) [some (.ins (He.ga K "Kind") (kindF ⟨la, sl, lt, oe, st, ch, ow, ne, mk, da, ma⟩))]) : c_Kind___init__ K [.r 0, .d (oi la), .d (oi sl), .d (.int lt), .d (.int oe), .d (.bool st), .d (.bool ch), .d (.bool ow), .d (.bool ne), .d (.str mk), .d (.bool da), .d (.int ma)] [some (.ins (He.ga K "Kind") [])] Q X := ⟨la, sl, lt, oe, st, ch, ow, ne, mk, da, ma, rfl, rfl, h1, q_⟩
theorem sc_Kind___init__ : FnScope ["self", "lasts", "shared_lasts", "late", "on_error", "strict", "check", "own", "never", "mark", "dated", "margin"] ["self", "lasts", "shared_lasts", "late", "on_error", "strict", "check", "own", "never", "mark", "dated", "margin"] (defScope (inClass (topS 24) 0)) := ⟨rfl, rfl, rfl, by decide +kernel, rfl, by decide +kernel, by decide +kernel⟩
theorem fk_Kind___init__ {f : Addr} {fd : FuncData} (T : Top fa fn K mg) (F : FunD K "__init__" "Kind.__init__" (defArgs (inClass (topS 24) 0)) (defBody (inClass (topS 24) 0)) (defScope (inClass (topS 24) 0)) (([] : List He.Dv).map (He.Dv.v K)) (([("shared_lasts", He.Dv.non), ("late", He.Dv.int (0)), ("on_error", He.Dv.int (0)), ("strict", He.Dv.bl false), ("check", He.Dv.bl false), ("own", He.Dv.bl false), ("never", He.Dv.bl false), ("mark", He.Dv.str "strong"), ("dated", He.Dv.bl false), ("margin", He.Dv.int (0))] : List (Str × He.Dv)).map fun q => (q.1, q.2.v K)) f fd) : FnOk P w K mg base CX0 3 f fd ["self", "lasts", "shared_lasts", "late", "on_error", "strict", "check", "own", "never", "mark", "dated", "margin"] (spA K (c_Kind___init__ K)) := by
  have sc := sc_Kind___init__
  refine fn_ok F sc (fun es M Q X h => ?_) fun cdv A outer s H E hr => ⟨_, (pss_cons (ps_if (pt_not (kt_tru (K := K) rfl (ke_ca (K := K) rfl (ca_is_allowed_or_none (w := w) (base := base) T) hr (by decide) rfl passN (pa_cons (pv 1) pa_nil)) (by intro _; rfl))) (pss_one Z.ps_never) pss_nil)
      (pss_cons (ps_if (pt_not (kt_tru (K := K) rfl (ke_ca (K := K) rfl (ca_is_allowed_or_none (w := w) (base := base) T) hr (by decide) rfl passN (pa_cons (pv 2) pa_nil)) (by intro _; rfl))) (pss_one Z.ps_never) pss_nil)
      (pss_cons (ps_if (pt_not (kt_tru (K := K) rfl (ke_ca (K := K) rfl (ca_is_allowed (w := w) (base := base) T) hr (by decide) rfl passN (pa_cons (pv 3) pa_nil)) (by intro _; rfl))) (pss_one Z.ps_never) pss_nil)
      (pss_cons (ps_if (pt_not (kt_tru (K := K) rfl (ke_ca (K := K) rfl (ca_is_allowed (w := w) (base := base) T) hr (by decide) rfl passN (pa_cons (pv 4) pa_nil)) (by intro _; rfl))) (pss_one Z.ps_never) pss_nil)
      (pss_cons (ps_if (pt_cmpR (kNotIn (K := K) rfl) (pv 9) (ke_tupC (K := K) rfl rfl (T.glo 89 rfl) (T.fact 90 rfl)) (by rfl)) (pss_one Z.ps_never) pss_nil)
      (pss_cons (ps_if (pt_not (kt_tru (K := K) rfl (ke_ca (K := K) rfl (ca_is_allowed (w := w) (base := base) T) hr (by decide) rfl passN (pa_cons (pv 11) pa_nil)) (by intro _; rfl))) (pss_one Z.ps_never) pss_nil)
      (pss_cons (ks_fld (f := "lasts") (Cs := [He.ga K "Kind"]) (K := K) rfl (pv 0) (pv 1) (fo_cons (T.fact 5 rfl) (T.fact 13 rfl) fo_nil))
      (pss_cons (ks_fld (f := "shared_lasts") (Cs := [He.ga K "Kind"]) (K := K) rfl (pv 0) (pv 2) (fo_cons (T.fact 5 rfl) (T.fact 12 rfl) fo_nil))
      (pss_cons (ks_fld (f := "late") (Cs := [He.ga K "Kind"]) (K := K) rfl (pv 0) (pv 3) (fo_cons (T.fact 5 rfl) (T.fact 11 rfl) fo_nil))
      (pss_cons (ks_fld (f := "on_error") (Cs := [He.ga K "Kind"]) (K := K) rfl (pv 0) (pv 4) (fo_cons (T.fact 5 rfl) (T.fact 10 rfl) fo_nil))
      (pss_cons (ks_fld (f := "strict") (Cs := [He.ga K "Kind"]) (K := K) rfl (pv 0) (pv 5) (fo_cons (T.fact 5 rfl) (T.fact 9 rfl) fo_nil))
      (pss_cons (ks_fld (f := "check") (Cs := [He.ga K "Kind"]) (K := K) rfl (pv 0) (pv 6) (fo_cons (T.fact 5 rfl) (T.fact 8 rfl) fo_nil))
      (pss_cons (ks_fld (f := "own") (Cs := [He.ga K "Kind"]) (K := K) rfl (pv 0) (pv 7) (fo_cons (T.fact 5 rfl) (T.fact 7 rfl) fo_nil))
      (pss_cons (ks_fld (f := "never") (Cs := [He.ga K "Kind"]) (K := K) rfl (pv 0) (pv 8) (fo_cons (T.fact 5 rfl) (T.fact 6 rfl) fo_nil))
      (pss_cons (ks_fld (f := "mark") (Cs := [He.ga K "Kind"]) (K := K) rfl (pv 0) (pv 9) (fo_cons (T.fact 5 rfl) (T.fact 88 rfl) fo_nil))
      (pss_cons (ks_fld (f := "dated") (Cs := [He.ga K "Kind"]) (K := K) rfl (pv 0) (pv 10) (fo_cons (T.fact 5 rfl) (T.fact 87 rfl) fo_nil))
      (pss_one (ks_fld (f := "margin") (Cs := [He.ga K "Kind"]) (K := K) rfl (pv 0) (pv 11) (fo_cons (T.fact 5 rfl) (T.fact 86 rfl) fo_nil))))))))))))))))))), fun es M Q X h => ?_⟩
  · obtain ⟨la, sl, lt, oe, st, ch, ow, ne, mk, da, ma, rfl, rfl, h1, k⟩ := h
    all_goals rfl
  · obtain ⟨la, sl, lt, oe, st, ch, ow, ne, mk, da, ma, rfl, rfl, h1, k⟩ := h
    all_goals try simp only [cx_K, cx_Kx, cxS_K, cxS_Kx]
    all_goals fail "zg"
    obtain ⟨g1, g2, g3, g4, g5, g6⟩ := h1
    dsimp only at g1 g2 g3 g4 g5 g6
    fail "z"
    all_goals first
      | exact k
      | (exfalso; simp_all; done)
      | trace_state
theorem cm_Kind___init__ (T : Top fa fn K mg) : Cm P w K mg base CX0 ("Kind", some "__init__") "__init__" "Kind.__init__" (inClass (topS 24) 0) (([] : List He.Dv).map (He.Dv.v K)) (([("shared_lasts", He.Dv.non), ("late", He.Dv.int (0)), ("on_error", He.Dv.int (0)), ("strict", He.Dv.bl false), ("check", He.Dv.bl false), ("own", He.Dv.bl false), ("never", He.Dv.bl false), ("mark", He.Dv.str "strong"), ("dated", He.Dv.bl false), ("margin", He.Dv.int (0))] : List (Str × He.Dv)).map fun q => (q.1, q.2.v K)) 3 ["self", "lasts", "shared_lasts", "late", "on_error", "strict", "check", "own", "never", "mark", "dated", "margin"] (c_Kind___init__ K) := cm_of T 31 rfl fun fd F => fk_Kind___init__ T F
local macro_rules | `(tactic| focus fail "zk") => `(tactic| with_reducible refine k_Kind___init__ ?_ ?_)
local macro_rules | `(tactic| focus fail "zk") => `(tactic| with_reducible refine k_Kind___init__ (sl := none) ?_ ?_)
def c_Setting___init__ (K : PySem.W.Frag) : ASp := fun es M Q X => ∃ (mk : List (Nat × MakeR)) (kd : KindR) (cl : Option (List ClockR)) (dl : Option (List Int)) (ls : Bool), es = [.r 0, .d (.list (mk.map (mkD K))), .d (kindD K kd), .d (oclE K cl), .d (odlE dl), .d (.bool ls)] ∧ M = [some (.ins (He.ga K "Setting") [])] ∧ GoodS mk cl dl ∧ Q (.d .none) [some (.ins (He.ga K "Setting") (setF K (setOf mk kd cl dl ls)))]
theorem kS00_Setting___init__ {K : PySem.W.Frag} {mk : List (Nat × MakeR)} {kd : KindR} {ls : Bool} {Q : Ent → Ms → Prop} {X : Xa} (h : GoodS mk none none) (q : Q (.d .none) [some (.ins (He.ga K "Setting") (setF K (setOf mk kd none none ls)))]) : c_Setting___init__ K [.r 0, .d (.list (mk.map (mkD K))), .d (kindD K kd), .d (.none), .d (.none), .d (.bool ls)] [some (.ins (He.ga K "Setting") [])] Q X := ⟨mk, kd, none, none, ls, rfl, rfl, h, q⟩
theorem kS01_Setting___init__ {K : PySem.W.Frag} {mk : List (Nat × MakeR)} {kd : KindR} {dl : List Int} {ls : Bool} {Q : Ent → Ms → Prop} {X : Xa} (h : GoodS mk none (some dl)) (q : Q (.d .none) [some (.ins (He.ga K "Setting") (setF K (setOf mk kd none (some dl) ls)))]) : c_Setting___init__ K [.r 0, .d (.list (mk.map (mkD K))), .d (kindD K kd), .d (.none), .d (.list (dl.map PyData.int)), .d (.bool ls)] [some (.ins (He.ga K "Setting") [])] Q X := ⟨mk, kd, none, (some dl), ls, rfl, rfl, h, q⟩
theorem kS10_Setting___init__ {K : PySem.W.Frag} {mk : List (Nat × MakeR)} {kd : KindR} {cl : List ClockR} {ls : Bool} {Q : Ent → Ms → Prop} {X : Xa} (h : GoodS mk (some cl) none) (q : Q (.d .none) [some (.ins (He.ga K "Setting") (setF K (setOf mk kd (some cl) none ls)))]) : c_Setting___init__ K [.r 0, .d (.list (mk.map (mkD K))), .d (kindD K kd), .d (.list (cl.map (clockD K))), .d (.none), .d (.bool ls)] [some (.ins (He.ga K "Setting") [])] Q X := ⟨mk, kd, (some cl), none, ls, rfl, rfl, h, q⟩
theorem kS11_Setting___init__ {K : PySem.W.Frag} {mk : List (Nat × MakeR)} {kd : KindR} {cl : List ClockR} {dl : List Int} {ls : Bool} {Q : Ent → Ms → Prop} {X : Xa} (h : GoodS mk (some cl) (some dl)) (q : Q (.d .none) [some (.ins (He.ga K "Setting") (setF K (setOf mk kd (some cl) (some dl) ls)))]) : c_Setting___init__ K [.r 0, .d (.list (mk.map (mkD K))), .d (kindD K kd), .d (.list (cl.map (clockD K))), .d (.list (dl.map PyData.int)), .d (.bool ls)] [some (.ins (He.ga K "Setting") [])] Q X := ⟨mk, kd, (some cl), (some dl), ls, rfl, rfl, h, q⟩
theorem sc_Setting___init__ : FnScope ["self", "makes", "kind", "clocks", "delays", "loses", "many_hops", "delay", "hop"] ["self", "makes", "kind", "clocks", "delays", "loses"] (defScope (inClass (topS 33) 0)) := ⟨rfl, rfl, rfl, by decide +kernel, rfl, by decide +kernel, by decide +kernel⟩
theorem fk_Setting___init__ {f : Addr} {fd : FuncData} (T : Top fa fn K mg) (F : FunD K "__init__" "Setting.__init__" (defArgs (inClass (topS 33) 0)) (defBody (inClass (topS 33) 0)) (defScope (inClass (topS 33) 0)) (([] : List He.Dv).map (He.Dv.v K)) (([("clocks", He.Dv.non), ("delays", He.Dv.non), ("loses", He.Dv.bl false)] : List (Str × He.Dv)).map fun q => (q.1, q.2.v K)) f fd) : FnOk P w K mg base CX0 3 f fd ["self", "makes", "kind", "clocks", "delays", "loses"] (spA K (c_Setting___init__ K)) := by
  have sc := sc_Setting___init__
  refine fn_ok F sc (fun es M Q X h => ?_) fun cdv A outer s H E hr => ⟨_, (pss_cons (ps_set (i := 6) sc.nd rfl (Or.inl rfl) (pe_callB (kLen (K := K) rfl) (by rfl) (T.free 25 rfl) (by decide +kernel) (pa_cons (pv 1) pa_nil)))
      (pss_cons (ps_if (pt_not (pt_chain op_leU op_leU pe_int (pv 6) (C8.pe_gc rfl (T.int 99 rfl)))) (pss_one Z.ps_never) pss_nil)
      (pss_cons (ps_if (PW.pt (pw_and (pt_cmpR op_isNotU (pv 3) pe_non (nomark _)) (pw_and1 (pt_cmpR (kNe (K := K) rfl hr.units) (pe_callB (kLen (K := K) rfl) (by rfl) (T.free 25 rfl) (by decide +kernel) (pa_cons (pv 3) pa_nil)) (pe_op (kAdd (K := K) rfl) (pv 6) pe_int) (nomark _))))) (pss_one Z.ps_never) pss_nil)
      (pss_cons (ps_if (PW.pt (pw_and (pt_cmpR op_isNotU (pv 4) pe_non (nomark _)) (pw_and1 (pt_cmpR (kNe (K := K) rfl hr.units) (pe_callB (kLen (K := K) rfl) (by rfl) (T.free 25 rfl) (by decide +kernel) (pa_cons (pv 4) pa_nil)) (pv 6) (nomark _))))) (pss_one Z.ps_never) pss_nil)
      (pss_cons (ps_if (PW.pt (pw_and (pt_cmpR op_isNotU (pv 4) pe_non (nomark _)) (pw_and1 (pt_not (kt_tru (K := K) rfl (pe_callB (kAll (K := K) rfl rfl) (by rfl) (T.free 0 rfl) (by decide +kernel) (pa_cons (pe_lc (own := [("delay", 7)]) (g := (gName 7)) (tt := tYes) rfl sc.nd (ki_list (K := K) rfl (pv 4)) (blkOk_by (own := [("delay", 7)]) (N := ["self", "makes", "kind", "clocks", "delays", "loses", "many_hops", "delay", "hop"]) (sc := defScope (inClass (topS 33) 0)) (by decide +kernel)) (fun _ _ _ _ _ => (pg_name (i := 7) sc.nd rfl (Or.inl rfl))) (fun _ _ _ _ _ => pts_nil) (fun _ _ _ _ _ => (pe_chain op_leU op_leU pe_int (pv 7) (C8.pe_gc rfl (T.int 98 rfl))))) pa_nil)) (by intro _; rfl)))))) (pss_one Z.ps_never) pss_nil)
      (pss_cons (ks_fld (f := "makes") (Cs := [He.ga K "Setting"]) (K := K) rfl (pv 0) (pe_callTy (kList (K := K) rfl) (by rfl) (T.free 92 rfl) (by decide +kernel) (pa_cons (pv 1) pa_nil)) (fo_cons (T.fact 26 rfl) (T.fact 27 rfl) fo_nil))
      (pss_cons (ks_fld (f := "kind") (Cs := [He.ga K "Setting"]) (K := K) rfl (pv 0) (pv 2) (fo_cons (T.fact 26 rfl) (T.fact 97 rfl) fo_nil))
      (pss_cons (ks_fld (f := "clocks") (Cs := [He.ga K "Setting"]) (K := K) rfl (pv 0) (pe_ifExp (pt_cmpR op_isV (pv 3) pe_non (nomark _)) (pe_lc (own := [("hop", 8)]) (g := (gName 8)) (tt := tYes) rfl sc.nd (pi_range1 (by rfl) (T.free 66 rfl) (pa_cons (pe_op (kAdd (K := K) rfl) (pv 6) pe_int) pa_nil)) (blkOk_by (own := [("hop", 8)]) (N := ["self", "makes", "kind", "clocks", "delays", "loses", "many_hops", "delay", "hop"]) (sc := defScope (inClass (topS 33) 0)) (by decide +kernel)) (fun _ _ _ _ _ => (pg_name (i := 8) sc.nd rfl (Or.inl rfl))) (fun _ _ _ _ _ => pts_nil) (fun _ _ _ _ _ => (ke_mk0 (ks := []) (cvs := [.int (0), .int (0)]) (ix := [0, 1, 2]) (K := K) rfl (T.fact 94 rfl) (cm_Clock___init__ (w := w) (base := base) T) hr (by decide) rfl (T.glo 95 rfl) (fun fd B => kbN B 1 [] [0, 1] [0, 1, 2] rfl (by kernel_rfl) (fun us its mv ws h1 h2 h3 h4 => by exact match us, its, mv, ws, h1, h2, h3, h4 with | [_], [_, _], [], [], _, _, _, _ => (by kernel_rfl))) passN pk_nil))) (pe_callTy (kList (K := K) rfl) (by rfl) (T.free 92 rfl) (by decide +kernel) (pa_cons (pv 3) pa_nil))) (fo_cons (T.fact 26 rfl) (T.fact 96 rfl) fo_nil))
      (pss_cons (ks_fld (f := "delays") (Cs := [He.ga K "Setting"]) (K := K) rfl (pv 0) (pe_ifExp (pt_cmpR op_isV (pv 4) pe_non (nomark _)) (pe_op (kMulU (K := K) rfl) (pe_lst (pa_cons pe_int pa_nil)) (pv 6)) (pe_callTy (kList (K := K) rfl) (by rfl) (T.free 92 rfl) (by decide +kernel) (pa_cons (pv 4) pa_nil))) (fo_cons (T.fact 26 rfl) (T.fact 93 rfl) fo_nil))
      (pss_one (ks_fld (f := "loses") (Cs := [He.ga K "Setting"]) (K := K) rfl (pv 0) (pv 5) (fo_cons (T.fact 26 rfl) (T.fact 91 rfl) fo_nil)))))))))))), fun es M Q X h => ?_⟩
  · obtain ⟨mk, kd, cl, dl, ls, rfl, rfl, h1, k⟩ := h
    all_goals rfl
  · obtain ⟨mk, kd, cl, dl, ls, rfl, rfl, h1, k⟩ := h
    all_goals try simp only [cx_K, cx_Kx, cxS_K, cxS_Kx]
    all_goals fail "zg"
    obtain ⟨g1, g2, g3, g4⟩ := h1
    rcases cl with _ | cl <;> rcases dl with _ | dl
    all_goals (
      try have hcl := g3 _ rfl
      try obtain ⟨hdl, hdx⟩ := g4 _ rfl
      clear g3 g4
      dsimp only [oclE, odlE] at *
      fail "z")
    all_goals (try simp only [List.length_map] at *)
    all_goals first
      | (exfalso; omega)
      | skip
    any_goals (
      refine w_lcE (wp_name (by simp)) ?_
      fail "z"
      refine ⟨Int, dl, fun z => Ent.d (.int z), fun _ => true, fun z => .bool (decide (0 ≤ z) && decide (z ≤ 1000)), by rw [List.map_map]; rfl, by rw [sizeLine]; omega, by first | exact LD.d | exact LD.r rfl, fun z _ => ?_, ?_⟩
      · fail "z"
        all_goals first
          | (simp_all; done)
          | (simp; omega)
      rw [List.filter_eq_self.mpr (fun _ _ => rfl), show dl.map (fun z => PyData.bool (decide (0 ≤ z) && decide (z ≤ 1000))) = (dl.map (fun z => decide (0 ≤ z) && decide (z ≤ 1000))).map PyData.bool by rw [List.map_map]; rfl]
      fail "z")
    any_goals (
      refine w_lcE (wp_name (by simp)) ?_
      fail "z"
      refine ⟨Nat, List.range (mk.length + 1), fun z => Ent.d (.int (0 + (z : Int))), fun _ => true, fun z => clockD K ⟨0, 0⟩, by unfold rgE; congr 2, by rw [List.length_range, sizeLine]; omega, trivial, fun z _ => ?_, ?_⟩
      · fail "z"
        all_goals first
          | (exfalso; omega)
          | (simp_all; done)
          | trace_state
      rw [rep_const, List.length_range]
      fail "z")
    all_goals first
      | (refine q_of k rfl ?_; simp [setF, setOf, rep_flat]; done)
      | (exfalso; obtain ⟨x, hx, hn⟩ := dl_some (by assumption); exact hn (hdx x hx))
      | trace_state
theorem cm_Setting___init__ (T : Top fa fn K mg) : Cm P w K mg base CX0 ("Setting", some "__init__") "__init__" "Setting.__init__" (inClass (topS 33) 0) (([] : List He.Dv).map (He.Dv.v K)) (([("clocks", He.Dv.non), ("delays", He.Dv.non), ("loses", He.Dv.bl false)] : List (Str × He.Dv)).map fun q => (q.1, q.2.v K)) 3 ["self", "makes", "kind", "clocks", "delays", "loses"] (c_Setting___init__ K) := cm_of T 32 rfl fun fd F => fk_Setting___init__ T F
local macro_rules | `(tactic| focus fail "zk") => `(tactic| with_reducible refine kS00_Setting___init__ ?_ ?_)
local macro_rules | `(tactic| focus fail "zk") => `(tactic| with_reducible refine kS01_Setting___init__ ?_ ?_)
local macro_rules | `(tactic| focus fail "zk") => `(tactic| with_reducible refine kS10_Setting___init__ ?_ ?_)
local macro_rules | `(tactic| focus fail "zk") => `(tactic| with_reducible refine kS11_Setting___init__ ?_ ?_)
def c_Make_error_allowance (K : PySem.W.Frag) : ASp := fun es M Q X => ∃ (slfw : Nat), ∃ (slf : MakeR), ∃ (w : DirR), ∃ (d : DirR), es = [.d (makeD K slfw slf), .d (dirD K w), .d (dirD K d)] ∧ M = [] ∧ (slfw ≠ 1) ∧ (Q (.d (oi (eallowM slf w d))) [])
theorem k_Make_error_allowance {K : PySem.W.Frag} {slfw : Nat} {slf : MakeR} {w : DirR} {d : DirR} {Q : Ent → Ms → Prop} {X : Xa} (h1 : slfw ≠ 1) (q_ : Q (.d (oi (eallowM slf w d))) []) : c_Make_error_allowance K [.d (makeD K slfw slf), .d (dirD K w), .d (dirD K d)] [] Q X := ⟨slfw, slf, w, d, rfl, rfl, h1, q_⟩
theorem sc_Make_error_allowance : FnScope ["self", "wish", "directives", "extra"] ["self", "wish", "directives"] (defScope (inClass (topS 43) 9)) := ⟨rfl, rfl, rfl, by decide +kernel, rfl, by decide +kernel, by decide +kernel⟩
theorem fk_Make_error_allowance {f : Addr} {fd : FuncData} (T : Top fa fn K mg) (F : FunD K "error_allowance" "Make.error_allowance" (defArgs (inClass (topS 43) 9)) (defBody (inClass (topS 43) 9)) (defScope (inClass (topS 43) 9)) (([] : List He.Dv).map (He.Dv.v K)) (([] : List (Str × He.Dv)).map fun q => (q.1, q.2.v K)) f fd) : FnOk P w K mg base CX0 3 f fd ["self", "wish", "directives"] (spA K (c_Make_error_allowance K)) := by
  have sc := sc_Make_error_allowance
  refine fn_ok F sc (fun es M Q X h => ?_) fun cdv A outer s H E hr => ⟨_, (pss_cons (ps_if (kt_tru (K := K) rfl (ke_fld (f := "strict") (Cs := [He.ga K "Directives"]) (K := K) rfl (pv 2) (fo_cons (T.fact 60 rfl) (T.fact 78 rfl) fo_nil)) (by intro _; rfl)) (pss_one (ps_ret pe_int)) pss_nil)
      (pss_cons (ps_set (i := 3) sc.nd rfl (Or.inl rfl) (ke_meA (n := 2) (ks := []) (as := [⟨He.ga K "Make", c_Make_allowance K, [], [], [0, 1, 2]⟩, ⟨He.ga K "StrictMake", c_StrictMake_allowance K, [], [], [0, 1, 2]⟩, ⟨He.ga K "OwnMake", c_Make_allowance K, [], [], [0, 1, 2]⟩]) (K := K) rfl (pv 0) (ma_cons (mao_of (K := K) rfl (T.fact 18 rfl) (T.fact 103 rfl) (cm_Make_allowance (w := w) (base := base) T) hr (by decide) (fun fd B => kb00 B 3 [] [0, 1, 2] (fun _ _ _ _ _ _ _ us ws h1 h2 => by exact match us, ws, h1, h2 with | [_, _, _], [], _, _ => (by kernel_rfl)))) (ma_cons (mao_of (K := K) rfl (T.fact 16 rfl) (T.fact 102 rfl) (cm_StrictMake_allowance (w := w) (base := base) T) hr (by decide) (fun fd B => kb00 B 3 [] [0, 1, 2] (fun _ _ _ _ _ _ _ us ws h1 h2 => by exact match us, ws, h1, h2 with | [_, _, _], [], _, _ => (by kernel_rfl)))) (ma_cons (mao_of (K := K) rfl (T.fact 14 rfl) (T.fact 101 rfl) (cm_OwnMake_allowance (w := w) (base := base) T) hr (by decide) (fun fd B => kb00 B 3 [] [0, 1, 2] (fun _ _ _ _ _ _ _ us ws h1 h2 => by exact match us, ws, h1, h2 with | [_, _, _], [], _, _ => (by kernel_rfl)))) ma_nil))) passN (pa_cons (pv 1) (pa_cons (pv 2) pa_nil)) pk_nil))
      (pss_cons (ps_if (pt_cmpR op_isV (pv 3) pe_non (nomark _)) (pss_one (ps_ret pe_non)) pss_nil)
      (pss_one (ps_ret (pe_callB (call_maxI rfl (fun _ _ _ => max_ok)) (by rfl) (T.free 59 rfl) (by decide +kernel) (pa_cons (pv 3) (pa_cons (ke_fld (f := "error_grace") (Cs := [He.ga K "Make", He.ga K "StrictMake", He.ga K "OwnMake"]) (K := K) rfl (pv 0) (fo_cons (T.fact 18 rfl) (T.fact 52 rfl) (fo_cons (T.fact 16 rfl) (T.fact 51 rfl) (fo_cons (T.fact 14 rfl) (T.fact 50 rfl) fo_nil)))) (pa_cons (ke_ca (K := K) rfl (ca_number_or_zero (w := w) (base := base) T) hr (by decide) rfl passN (pa_cons (ke_fld (f := "on_error") (Cs := [He.ga K "Directives"]) (K := K) rfl (pv 2) (fo_cons (T.fact 60 rfl) (T.fact 100 rfl) fo_nil)) pa_nil)) pa_nil))))))))), fun es M Q X h => ?_⟩
  · obtain ⟨slfw, slf, w, d, rfl, rfl, h1, k⟩ := h
    all_goals rfl
  · obtain ⟨slfw, slf, w, d, rfl, rfl, h1, k⟩ := h
    all_goals try simp only [cx_K, cx_Kx, cxS_K, cxS_Kx]
    all_goals fail "zg"
    fail "z"
    all_goals first
      | (refine q_of k ?_ rfl; simp_all [eallowM]; done)
      | trace_state
theorem cm_Make_error_allowance (T : Top fa fn K mg) : Cm P w K mg base CX0 ("Make", some "error_allowance") "error_allowance" "Make.error_allowance" (inClass (topS 43) 9) (([] : List He.Dv).map (He.Dv.v K)) (([] : List (Str × He.Dv)).map fun q => (q.1, q.2.v K)) 3 ["self", "wish", "directives"] (c_Make_error_allowance K) := cm_of T 33 rfl fun fd F => fk_Make_error_allowance T F
theorem cm_OwnMake_error_allowance (T : Top fa fn K mg) : Cm P w K mg base CX0 ("OwnMake", some "error_allowance") "error_allowance" "Make.error_allowance" (inClass (topS 43) 9) (([] : List He.Dv).map (He.Dv.v K)) (([] : List (Str × He.Dv)).map fun q => (q.1, q.2.v K)) 3 ["self", "wish", "directives"] (c_Make_error_allowance K) := cm_of T 34 rfl fun fd F => fk_Make_error_allowance T F
theorem kk_Make_error_allowance {K : PySem.W.Frag} {slfw : Nat} {slf : MakeR} {w d : DirR} {Q : Ent → Ms → Prop} {X : Xa} (h1 : slfw ≠ 1) (q1 : eallowM slf w d = none → Q (.d .none) []) (q2 : ∀ v, eallowM slf w d = some v → Q (.d (.int v)) []) : c_Make_error_allowance K [.d (makeD K slfw slf), .d (dirD K w), .d (dirD K d)] [] Q X := by
  refine k_Make_error_allowance h1 ?_
  cases e : eallowM slf w d with
  | none => exact q1 e
  | some v => exact q2 v e
local macro_rules | `(tactic| focus fail "zk") => `(tactic| with_reducible refine k_Make_error_allowance ?_ ?_)
local macro_rules | `(tactic| focus fail "zk") => `(tactic| with_reducible refine kk_Make_error_allowance ?_ ?_ ?_)
def c_OwnMake___init__ (K : PySem.W.Frag) : ASp := fun es M Q X => ∃ (sh : Bool), ∃ (gr : Option Int), ∃ (eg : Int), ∃ (te : Bool), ∃ (da : Bool), ∃ (ch : Bool), ∃ (share : Int), ∃ (cap : Int), ∃ (du : Bool), ∃ (room : Int), es = [.r 0, .d (.bool sh), .d (oi gr), .d (.int eg), .d (.bool te), .d (.bool da), .d (.bool ch), .d (.int share), .d (.int cap), .d (.bool du), .d (.int room)] ∧ M = [some (.ins (He.ga K "OwnMake") [])] ∧ (sh = false) ∧ (∀ g, gr = some g → 0 ≤ g) ∧ (0 ≤ eg) ∧ (0 ≤ share) ∧ (share ≤ 100) ∧ (0 ≤ cap) ∧ (1 ≤ room) ∧ (room ≤ 100) ∧ (Q (.d .none) [some (.ins (He.ga K "OwnMake") (makeF ⟨false, gr, eg, te, da, ch, share, cap, du, room⟩))])
theorem k_OwnMake___init__ {K : PySem.W.Frag} {sh : Bool} {gr : Option Int} {eg : Int} {te : Bool} {da : Bool} {ch : Bool} {share : Int} {cap : Int} {du : Bool} {room : Int} {Q : Ent → Ms → Prop} {X : Xa} (h1 : sh = false) (h2 : ∀ g, gr = some g → 0 ≤ g) (h3 : 0 ≤ eg) (h4 : 0 ≤ share) (h5 : share ≤ 100) (h6 : 0 ≤ cap) (h7 : 1 ≤ room) (h8 : room ≤ 100) (q_ : Q (.d .none) [some (.ins (He.ga K "OwnMake") (makeF ⟨false, gr, eg, te, da, ch, share, cap, du, room⟩))]) : c_OwnMake___init__ K [.r 0, .d (.bool sh), .d (oi gr), .d (.int eg), .d (.bool te), .d (.bool da), .d (.bool ch), .d (.int share), .d (.int cap), .d (.bool du), .d (.int room)] [some (.ins (He.ga K "OwnMake") [])] Q X := ⟨sh, gr, eg, te, da, ch, share, cap, du, room, rfl, rfl, h1, h2, h3, h4, h5, h6, h7, h8, q_⟩
theorem sc_OwnMake___init__ : SScope ["self", "shared", "grace", "error_grace", "tells", "dates", "checks", "share", "cap", "durable", "room"] ["self", "shared", "grace", "error_grace", "tells", "dates", "checks", "share", "cap", "durable", "room"] (defScope (inClass (topS 45) 1)) := ⟨rfl, rfl, rfl, by decide +kernel, rfl, by decide +kernel, by decide +kernel, by decide +kernel, by decide +kernel, by decide +kernel⟩
theorem fk_OwnMake___init__ {f : Addr} {fd : FuncData} (T : Top fa fn K mg) (F : FunS K P.main.file "__init__" "OwnMake.__init__" (defArgs (inClass (topS 45) 1)) (defBody (inClass (topS 45) 1)) (defScope (inClass (topS 45) 1)) (([] : List He.Dv).map (He.Dv.v K)) (([("shared", He.Dv.bl false), ("grace", He.Dv.int (0)), ("error_grace", He.Dv.int (0)), ("tells", He.Dv.bl true), ("dates", He.Dv.bl false), ("checks", He.Dv.bl true), ("share", He.Dv.int (0)), ("cap", He.Dv.int (0)), ("durable", He.Dv.bl false), ("room", He.Dv.int (8))] : List (Str × He.Dv)).map fun q => (q.1, q.2.v K)) (He.ga K "OwnMake") f fd) : FnOk P w K mg base CX0 3 f fd ["self", "shared", "grace", "error_grace", "tells", "dates", "checks", "share", "cap", "durable", "room"] (spA K (c_OwnMake___init__ K)) := by
  have sc := sc_OwnMake___init__
  refine fnS_ok F sc rfl P_top (T.free 105 rfl) rfl (by decide +kernel) (fun es M Q X h => ?_) fun cda cc A outer s H E hr sup => ⟨_, (pssa_cons (psa_of (ps_if (kt_tru (K := K) rfl (pv 1) (by intro _; rfl)) (pss_one Z.ps_never) pss_nil))
      (pssa_one (psa_expr (pea_sup0 (ks := ["shared", "grace", "error_grace", "tells", "dates", "checks", "share", "cap", "durable", "room"]) (as := [⟨He.ga K "OwnMake", c_Make___init__ K, [], [], [0, 1, 2, 3, 4, 5, 6, 7, 8, 9, 10]⟩]) sup rfl (by decide) (sa_cons (sao_of (K := K) rfl (T.fact 104 rfl) (cm_Make___init__ (w := w) (base := base) T) hr (by decide) (fun fd B => kbN B 1 ["shared", "grace", "error_grace", "tells", "dates", "checks", "share", "cap", "durable", "room"] [] [0, 1, 2, 3, 4, 5, 6, 7, 8, 9, 10] rfl (by kernel_rfl) (fun us its mv ws h1 h2 h3 h4 => by exact match us, its, mv, ws, h1, h2, h3, h4 with | [_], [], [_, _, _, _, _, _, _, _, _, _], [_, _, _, _, _, _, _, _, _, _], _, _, _, _ => (by kernel_rfl)))) sa_nil) passN (pk_cons pe_bl (pk_cons (pv 2) (pk_cons (pv 3) (pk_cons (pv 4) (pk_cons (pv 5) (pk_cons (pv 6) (pk_cons (pv 7) (pk_cons (pv 8) (pk_cons (pv 9) (pk_cons (pv 10) pk_nil)))))))))))))), fun es M Q X h => ?_⟩
  · obtain ⟨sh, gr, eg, te, da, ch, share, cap, du, room, rfl, rfl, h1, h2, h3, h4, h5, h6, h7, h8, k⟩ := h
    all_goals rfl
  · obtain ⟨sh, gr, eg, te, da, ch, share, cap, du, room, rfl, rfl, h1, h2, h3, h4, h5, h6, h7, h8, k⟩ := h
    all_goals try simp only [cx_K, cx_Kx, cxS_K, cxS_Kx]
    all_goals fail "zg"
    subst h1
    fail "z"
    all_goals exact k
theorem cm_OwnMake___init__ (T : Top fa fn K mg) : Cm P w K mg base CX0 ("OwnMake", some "__init__") "__init__" "OwnMake.__init__" (inClass (topS 45) 1) (([] : List He.Dv).map (He.Dv.v K)) (([("shared", He.Dv.bl false), ("grace", He.Dv.int (0)), ("error_grace", He.Dv.int (0)), ("tells", He.Dv.bl true), ("dates", He.Dv.bl false), ("checks", He.Dv.bl true), ("share", He.Dv.int (0)), ("cap", He.Dv.int (0)), ("durable", He.Dv.bl false), ("room", He.Dv.int (8))] : List (Str × He.Dv)).map fun q => (q.1, q.2.v K)) 3 ["self", "shared", "grace", "error_grace", "tells", "dates", "checks", "share", "cap", "durable", "room"] (c_OwnMake___init__ K) := cm_sup T 35 rfl fun fd F => fk_OwnMake___init__ T F
theorem kS_OwnMake___init__ {K : PySem.W.Frag} {sh : Bool} {eg : Int} {te da ch : Bool} {share cap : Int} {du : Bool} {room : Int} {g : Int} {Q : Ent → Ms → Prop} {X : Xa} (h1 : sh = false) (h2 : 0 ≤ g) (h3 : 0 ≤ eg) (h4 : 0 ≤ share) (h5 : share ≤ 100) (h6 : 0 ≤ cap) (h7 : 1 ≤ room) (h8 : room ≤ 100) (q_ : Q (.d .none) [some (.ins (He.ga K "OwnMake") (makeF ⟨false, (some g), eg, te, da, ch, share, cap, du, room⟩))]) : c_OwnMake___init__ K [.r 0, .d (.bool sh), .d (.int g), .d (.int eg), .d (.bool te), .d (.bool da), .d (.bool ch), .d (.int share), .d (.int cap), .d (.bool du), .d (.int room)] [some (.ins (He.ga K "OwnMake") [])] Q X :=
  k_OwnMake___init__ (gr := (some g)) h1 (fun g e => by cases e; exact h2) h3 h4 h5 h6 h7 h8 q_

theorem kN_OwnMake___init__ {K : PySem.W.Frag} {sh : Bool} {eg : Int} {te da ch : Bool} {share cap : Int} {du : Bool} {room : Int} {Q : Ent → Ms → Prop} {X : Xa} (h1 : sh = false) (h3 : 0 ≤ eg) (h4 : 0 ≤ share) (h5 : share ≤ 100) (h6 : 0 ≤ cap) (h7 : 1 ≤ room) (h8 : room ≤ 100) (q_ : Q (.d .none) [some (.ins (He.ga K "OwnMake") (makeF ⟨false, none, eg, te, da, ch, share, cap, du, room⟩))]) : c_OwnMake___init__ K [.r 0, .d (.bool sh), .d (.none), .d (.int eg), .d (.bool te), .d (.bool da), .d (.bool ch), .d (.int share), .d (.int cap), .d (.bool du), .d (.int room)] [some (.ins (He.ga K "OwnMake") [])] Q X :=
  k_OwnMake___init__ (gr := none) h1 (fun g e => by cases e) h3 h4 h5 h6 h7 h8 q_
local macro_rules | `(tactic| focus fail "zk") => `(tactic| with_reducible refine kS_OwnMake___init__ ?_ ?_ ?_ ?_ ?_ ?_ ?_ ?_ ?_)
local macro_rules | `(tactic| focus fail "zk") => `(tactic| with_reducible refine kN_OwnMake___init__ ?_ ?_ ?_ ?_ ?_ ?_ ?_ ?_)
def c_l_world (K : PySem.W.Frag) : ASp := fun es M Q X => ∃ (most : Int), ∃ (extra : Int), ∃ (a : Int), ∃ (b : Int), ∃ (n : Int), es = [.r 0, .d (.int most), .d (.int extra)] ∧ M = [some (Pu a b n)] ∧ (0 ≤ b) ∧ (b < 2147483629) ∧ (0 ≤ n) ∧ (n ≤ 1000) ∧ (1 ≤ most) ∧ (most ≤ 6) ∧ (0 ≤ extra) ∧ (extra ≤ 999) ∧ (∀ (w : WoR) (a2 n2 : Int), n ≤ n2 → n2 ≤ n + 300 → okW w → Q (.r 1) [some (Pu a2 b n2), some (.dic (worldK w))])
theorem k_l_world {K : PySem.W.Frag} {most : Int} {extra : Int} {a : Int} {b : Int} {n : Int} {Q : Ent → Ms → Prop} {X : Xa} (h1 : 0 ≤ b) (h2 : b < 2147483629) (h3 : 0 ≤ n) (h4 : n ≤ 1000) (h5 : 1 ≤ most) (h6 : most ≤ 6) (h7 : 0 ≤ extra) (h8 : extra ≤ 999) (q_ : ∀ (w : WoR) (a2 n2 : Int), n ≤ n2 → n2 ≤ n + 300 → okW w → Q (.r 1) [some (Pu a2 b n2), some (.dic (worldK w))]) : c_l_world K [.r 0, .d (.int most), .d (.int extra)] [some (Pu a b n)] Q X := ⟨most, extra, a, b, n, rfl, rfl, h1, h2, h3, h4, h5, h6, h7, h8, q_⟩
theorem sc_l_world : FnScope ["_law_purse_here", "_law_most", "_law_extra", "_law_count", "_law_far", "_law_lossy", "_law_size", "_law_spans", "_law_k", "_law_links", "_law_makes", "_law_content"] ["_law_purse_here", "_law_most", "_law_extra"] (defScope (topS 51)) := ⟨rfl, rfl, rfl, by decide +kernel, rfl, by decide +kernel, by decide +kernel⟩
theorem ca_l_world (T : Top fa fn K mg) : Ca P w K mg base CX0 "_law_world" (topS 51) 3 ["_law_purse_here", "_law_most", "_law_extra"] (c_l_world K) := by
  have sc := sc_l_world
  refine ca_of T 36 106 rfl rfl (fun _ _ _ _ _ _ us hl => by exact match us, hl with | [_, _, _], _ => rfl) fun fd F => fn_ok F sc (fun es M Q X h => ?_) fun cdv A outer s H E hr => ⟨_, (pss_cons (ps_set (i := 3) sc.nd rfl (Or.inl rfl) (pe_op (kAdd (K := K) rfl) pe_int (ke_ca (K := K) rfl (ca_l_take (w := w) (base := base) T) hr (by decide) rfl passN (pa_cons (pv 0) (pa_cons (pv 1) pa_nil)))))
      (pss_cons (ps_set (i := 4) sc.nd rfl (Or.inl rfl) (pe_cmpR (kEq (K := K) rfl hr.units) (ke_ca (K := K) rfl (ca_l_take (w := w) (base := base) T) hr (by decide) rfl passN (pa_cons (pv 0) (pa_cons pe_int pa_nil))) pe_int (nomark _)))
      (pss_cons (ps_set (i := 5) sc.nd rfl (Or.inl rfl) (pe_cmpR (kEq (K := K) rfl hr.units) (ke_ca (K := K) rfl (ca_l_take (w := w) (base := base) T) hr (by decide) rfl passN (pa_cons (pv 0) (pa_cons pe_int pa_nil))) pe_int (nomark _)))
      (pss_cons (ps_set (i := 6) sc.nd rfl (Or.inr rfl) (pe_ifExp (kt_tru (K := K) rfl (pv 4) (by intro _; rfl)) pe_int pe_int))
      (pss_cons (ps_set (i := 7) sc.nd rfl (Or.inl rfl) pe_non)
      (pss_cons (ps_join (ps_if (pt_cmpR op_gtU (ke_ca (K := K) rfl (ca_l_take (w := w) (base := base) T) hr (by decide) rfl passN (pa_cons (pv 0) (pa_cons pe_int pa_nil))) pe_int (nomark _)) (pss_one (ps_setLc (i := 7) (own := [("_law_k", 8)]) (g := (gName 8)) (tt := tYes) rfl sc.nd rfl rfl (sw_true rfl rfl rfl (by decide +kernel)) (pi_range1 (by rfl) (T.free 66 rfl) (pa_cons (pe_op (kAdd (K := K) rfl) (pv 3) pe_int) pa_nil)) (blkOk_by (own := [("_law_k", 8)]) (N := ["_law_purse_here", "_law_most", "_law_extra", "_law_count", "_law_far", "_law_lossy", "_law_size", "_law_spans", "_law_k", "_law_links", "_law_makes", "_law_content"]) (sc := defScope (topS 51)) (by decide +kernel)) (fun _ _ _ _ _ => (pg_name (i := 8) sc.nd rfl (Or.inl rfl))) (fun _ _ _ _ _ => pts_nil) (fun _ _ _ _ _ => (pe_tup (pa_cons (ke_ca (K := K) rfl (ca_l_take (w := w) (base := base) T) hr (by decide) rfl passN (pa_cons (pv 0) (pa_cons (pv 6) pa_nil))) (pa_cons (ke_ca (K := K) rfl (ca_l_take (w := w) (base := base) T) hr (by decide) rfl passN (pa_cons (pv 0) (pa_cons (pv 6) pa_nil))) pa_nil)))))) pss_nil))
      (pss_cons (ps_set (i := 9) sc.nd rfl (Or.inl rfl) pe_non)
      (pss_cons (ps_join (ps_if (pt_cmpR op_gtU (ke_ca (K := K) rfl (ca_l_take (w := w) (base := base) T) hr (by decide) rfl passN (pa_cons (pv 0) (pa_cons pe_int pa_nil))) pe_int (nomark _)) (pss_one (ps_setLc (i := 9) (own := [("_law_k", 8)]) (g := (gName 8)) (tt := tYes) rfl sc.nd rfl rfl (sw_true rfl rfl rfl (by decide +kernel)) (pi_range1 (by rfl) (T.free 66 rfl) (pa_cons (pv 3) pa_nil)) (blkOk_by (own := [("_law_k", 8)]) (N := ["_law_purse_here", "_law_most", "_law_extra", "_law_count", "_law_far", "_law_lossy", "_law_size", "_law_spans", "_law_k", "_law_links", "_law_makes", "_law_content"]) (sc := defScope (topS 51)) (by decide +kernel)) (fun _ _ _ _ _ => (pg_name (i := 8) sc.nd rfl (Or.inl rfl))) (fun _ _ _ _ _ => pts_nil) (fun _ _ _ _ _ => (ke_ca (K := K) rfl (ca_l_take (w := w) (base := base) T) hr (by decide) rfl passN (pa_cons (pv 0) (pa_cons (pv 6) pa_nil)))))) pss_nil))
      (pss_cons (ps_setLc (i := 10) (own := [("_law_k", 8)]) (g := (gName 8)) (tt := tYes) rfl sc.nd rfl rfl (sw_true rfl rfl rfl (by decide +kernel)) (pi_range1 (by rfl) (T.free 66 rfl) (pa_cons (pv 3) pa_nil)) (blkOk_by (own := [("_law_k", 8)]) (N := ["_law_purse_here", "_law_most", "_law_extra", "_law_count", "_law_far", "_law_lossy", "_law_size", "_law_spans", "_law_k", "_law_links", "_law_makes", "_law_content"]) (sc := defScope (topS 51)) (by decide +kernel)) (fun _ _ _ _ _ => (pg_name (i := 8) sc.nd rfl (Or.inl rfl))) (fun _ _ _ _ _ => pts_nil) (fun _ _ _ _ _ => (ke_ca (K := K) rfl (ca_l_make_row (w := w) (base := base) T) hr (by decide) rfl passN (pa_cons (pv 0) pa_nil))))
      (pss_cons (ps_set (i := 11) sc.nd rfl (Or.inl rfl) (ke_ca (K := K) rfl (ca_l_kind_row (w := w) (base := base) T) hr (by decide) rfl passN (pa_cons (pv 0) (pa_cons (pv 4) (pa_cons (pv 2) (pa_cons (pv 7) pa_nil))))))
      (pss_one (ps_ret (pe_mut (pe_disp (pps_cons pe_str (pv 3) (pps_cons pe_str (pv 10) (pps_cons pe_str (pv 11) (pps_cons pe_str (pv 7) (pps_cons pe_str (pv 9) (pps_cons pe_str (pv 5) pps_nil)))))) (by rfl) (by rfl) (fun z => by cases z) (by decide))))))))))))))), fun es M Q X h => ?_⟩
  · obtain ⟨most, extra, a, b, n, rfl, rfl, h1, h2, h3, h4, h5, h6, h7, h8, k⟩ := h
    all_goals rfl
  · obtain ⟨most, extra, a, b, n, rfl, rfl, h1, h2, h3, h4, h5, h6, h7, h8, k⟩ := h
    all_goals try simp only [cx_K, cx_Kx]
    all_goals fail "zg"
    fail "z"
    all_goals rename_i dc ac nc c1 c2 c3 c4 df af nf c5 c6 c7 c8 dl al nl c9 c10 c11 c12 hb
    all_goals (
      refine s_join0 (fun Γ0 M0 Γ' M' => ∃ (sp : Option (List (Int × Int))) (a8 : Int) (n8 : Int), Γ' = upG Γ0 [(7, some (.d (spD sp)))] ∧ M' = [some (Pu a8 b n8)] ∧ (∀ l, sp = some l → (l.length : Int) = 1 + dc + 1 ∧ ∀ p ∈ l, (0 ≤ p.1 ∧ p.1 ≤ 1000) ∧ (0 ≤ p.2 ∧ p.2 ≤ 1000)) ∧ (nl ≤ n8 ∧ n8 ≤ nl + 40)) ?_ ?_
      · fail "z"
        · rename_i d0 a0 n0 e1 e2 e3 e4 hb0
          refine w_lc (wp_name (by simp)) ?_
          fail "z"
          refine ⟨fun i ds M' => ∃ (l : List (Int × Int)) (a9 n9 : Int), ds = l.map prI ∧ M' = [some (Pu a9 b n9)] ∧ l.length = i ∧ (∀ x ∈ l, (0 ≤ x.1 ∧ x.1 ≤ 1000) ∧ (0 ≤ x.2 ∧ x.2 ≤ 1000)) ∧ n0 ≤ n9 ∧ n9 ≤ n0 + 2 * i, ?_, ⟨[], _, _, rfl, rfl, rfl, fun p h => (nomatch h), by omega, by omega⟩, (fun _ _ _ _ hj => by first | trivial | exact LD.d | exact LD.w), ?_, ?_⟩
          · (simp only [rgE_len, List.length_map, sizeLine]; omega)
          · intro i e ds M' he hj
            obtain ⟨ht, rfl⟩ := rgE_get he
            obtain ⟨l, a9, n9, rfl, rfl, hl, hx, q1, q2⟩ := hj
            fail "z"
            all_goals try omega
            rename_i d1 _ _ _ _ _ _ d2 _ _ _ _ _ _
            exact ⟨l ++ [(d1, d2)], _, _, by rw [List.map_append]; rfl, rfl, by rw [List.length_append, hl]; rfl, fun p hp => (List.mem_append.mp hp).elim (hx p) fun h => by rw [List.mem_singleton.mp h]; exact ⟨⟨by assumption, by dsimp only; omega⟩, ⟨by assumption, by dsimp only; omega⟩⟩, by omega, by omega⟩
          · intro ds M' hlen hj
            obtain ⟨l, a9, n9, rfl, rfl, hl, hx, q1, q2⟩ := hj
            rw [rgE_len] at hl q2
            
            fail "z"
            exact ⟨some l, _, _, rfl, rfl, fun l2 e => by cases e; exact ⟨by omega, hx⟩, by omega, by omega⟩
        · exact ⟨none, _, _, rfl, rfl, fun l e => (nomatch e), by omega, by omega⟩
      · rintro Γ' M' ⟨sp, a8, n8, rfl, rfl, f1, f2⟩
        fail "zg"
        have ssp := f1
        have hsp : SpNe sp := fun l e => ⟨fun z => by have := (f1 l e).1; rw [z] at this; simp at this; omega, (f1 l e).2⟩
        fail "z"
        refine s_join0 (fun Γ0 M0 Γ' M' => ∃ (lk : Option (List Int)) (a7 : Int) (n7 : Int), Γ' = upG Γ0 [(9, some (.d (odlE lk)))] ∧ M' = [some (Pu a7 b n7)] ∧ (∀ l, lk = some l → (l.length : Int) = 1 + dc ∧ ∀ x ∈ l, 0 ≤ x ∧ x ≤ 1000) ∧ (nl ≤ n7 ∧ n7 ≤ nl + 60)) ?_ ?_
        · fail "z"
          · rename_i d0 a0 n0 e1 e2 e3 e4 hb0
            refine w_lc (wp_name (by simp)) ?_
            fail "z"
            refine ⟨fun i ds M' => ∃ (l : List Int) (a9 n9 : Int), ds = l.map PyData.int ∧ M' = [some (Pu a9 b n9)] ∧ l.length = i ∧ (∀ x ∈ l, 0 ≤ x ∧ x ≤ 1000) ∧ n0 ≤ n9 ∧ n9 ≤ n0 + 1 * i, ?_, ⟨[], _, _, rfl, rfl, rfl, fun p h => (nomatch h), by omega, by omega⟩, (fun _ _ _ _ hj => by first | trivial | exact LD.d | exact LD.w), ?_, ?_⟩
            · (simp only [rgE_len, List.length_map, sizeLine]; omega)
            · intro i e ds M' he hj
              obtain ⟨ht, rfl⟩ := rgE_get he
              obtain ⟨l, a9, n9, rfl, rfl, hl, hx, q1, q2⟩ := hj
              fail "z"
              all_goals try omega
              rename_i d1 _ _ _ _ _ _
              exact ⟨l ++ [d1], _, _, by rw [List.map_append]; rfl, rfl, by rw [List.length_append, hl]; rfl, fun p hp => (List.mem_append.mp hp).elim (hx p) fun h => by rw [List.mem_singleton.mp h]; exact ⟨by assumption, by omega⟩, by omega, by omega⟩
            · intro ds M' hlen hj
              obtain ⟨l, a9, n9, rfl, rfl, hl, hx, q1, q2⟩ := hj
              rw [rgE_len] at hl q2
              
              fail "z"
              exact ⟨some l, _, _, rfl, rfl, fun l2 e => by cases e; exact ⟨by omega, hx⟩, by omega, by omega⟩
          · exact ⟨none, _, _, rfl, rfl, fun l e => (nomatch e), by omega, by omega⟩
        · rintro Γ' M' ⟨lk, a7, n7, rfl, rfl, f1, f2⟩
          fail "zg"
          fail "z"
          refine w_lc (wp_name (by simp)) ?_
          fail "z"
          refine ⟨fun i ds M' => ∃ (l : List MkRow) (a9 n9 : Int), ds = l.map rowD ∧ M' = [some (Pu a9 b n9)] ∧ l.length = i ∧ (∀ x ∈ l, okMk x) ∧ n7 ≤ n9 ∧ n9 ≤ n7 + 11 * i, ?_, ⟨[], _, _, rfl, rfl, rfl, fun p h => (nomatch h), by omega, by omega⟩, (fun _ _ _ _ hj => by first | trivial | exact LD.d | exact LD.w), ?_, ?_⟩
          · (simp only [rgE_len, List.length_map, sizeLine]; omega)
          · intro i e ds M' he hj
            obtain ⟨ht, rfl⟩ := rgE_get he
            obtain ⟨l, a9, n9, rfl, rfl, hl, hx, q1, q2⟩ := hj
            fail "z"
            all_goals try omega
            rename_i r1 _ _ _ _ hr1
            exact ⟨l ++ [r1], _, _, by rw [List.map_append]; rfl, rfl, by rw [List.length_append, hl]; rfl, fun p hp => (List.mem_append.mp hp).elim (hx p) fun h => by rw [List.mem_singleton.mp h]; exact hr1, by omega, by omega⟩
          · intro ds M' hlen hj
            obtain ⟨l, a9, n9, rfl, rfl, hl, hx, q1, q2⟩ := hj
            rw [rgE_len] at hl q2
            
            fail "z"
            all_goals first
              | exact hsp
              | (rename_i kd a5 n5 z1 z2 z3 z4
                 refine k ⟨1 + dc, l, kd, sp, lk, decide (dl = 1)⟩ _ _ (by omega) (by omega) ⟨by dsimp only; omega, by dsimp only; omega, by dsimp only; omega, hx, z3, z4, fun l e => (ssp l e).1, fun l e => (ssp l e).2, fun l e => (f1 l e).1, fun l e => (f1 l e).2⟩)
              | trace_state)
local macro_rules | `(tactic| focus fail "zk") => `(tactic| with_reducible refine k_l_world ?_ ?_ ?_ ?_ ?_ ?_ ?_ ?_ ?_)
def c_least_numbers (K : PySem.W.Frag) : ASp := fun es M Q X => ∃ (ws : List Str), es = [.d (.list (ws.map PyData.str))] ∧ M = [] ∧ (ws.length ≤ 1000) ∧ (∀ x ∈ ws, x.length ≤ 1000) ∧ (Q (.r 0) [some (.dic (kds (nums ws)))])
theorem k_least_numbers {K : PySem.W.Frag} {ws : List Str} {Q : Ent → Ms → Prop} {X : Xa} (h1 : ws.length ≤ 1000) (h2 : ∀ x ∈ ws, x.length ≤ 1000) (q_ : Q (.r 0) [some (.dic (kds (nums ws)))]) : c_least_numbers K [.d (.list (ws.map PyData.str))] [] Q X := ⟨ws, rfl, rfl, h1, h2, q_⟩
theorem sc_least_numbers : FnScope ["words", "numbers", "element", "pair", "name", "number"] ["words"] (defScope (topS 12)) := ⟨rfl, rfl, rfl, by decide +kernel, rfl, by decide +kernel, by decide +kernel⟩
theorem ca_least_numbers (T : Top fa fn K mg) : Ca P w K mg base CX0 "least_numbers" (topS 12) 4 ["words"] (c_least_numbers K) := by
  have sc := sc_least_numbers
  refine ca_of T 37 107 rfl rfl (fun _ _ _ _ _ _ us hl => by exact match us, hl with | [_], _ => rfl) fun fd F => fn_ok F sc (fun es M Q X h => ?_) fun cdv A outer s H E hr => ⟨_, (pss_cons (ps_set (i := 1) sc.nd rfl (Or.inl rfl) pe_dnewK)
      (pss_cons (ps_for PassesOwn.never rfl (ki_list (K := K) rfl (pv 0)) (pg_name (i := 2) sc.nd rfl (Or.inl rfl)) (pss_cons (ps_set (i := 3) sc.nd rfl (Or.inl rfl) (ke_ca (K := K) rfl (ca_read_numbered (w := w) (base := base) T) hr (by decide) rfl passN (pa_cons (pv 2) pa_nil)))
      (pss_cons (ps_if (pt_cmpR op_isV (pv 3) pe_non (nomark _)) (pss_one ps_continue) pss_nil)
      (pss_cons (ps_asg (pv 3) (pg_tup rfl (pgs_cons (pg_name (i := 4) sc.nd rfl (Or.inl rfl)) (pgs_cons (pg_name (i := 5) sc.nd rfl (Or.inl rfl)) pgs_nil))))
      (pss_one (ps_if (PW.pt (pw_or (pt_cmp (pc_dnotin (hu_of hr) (pv 4) (pv 1))) (pw_or1 (pt_cmpR op_ltU (pv 5) (pe_dget (hu_of hr) (pv 1) (pv 4) (fun _ _ => rfl)) (nomark _))))) (pss_one (ps_dput (hu_of hr) (pv 1) (pv 4) (pv 5) rfl)) pss_nil))))))
      (pss_one (ps_ret (pe_mut (pv 1)))))), fun es M Q X h => ?_⟩
  · obtain ⟨ws, rfl, rfl, h1, h2, k⟩ := h
    all_goals rfl
  · obtain ⟨ws, rfl, rfl, h1, h2, k⟩ := h
    all_goals try simp only [cx_K, cx_Kx]
    all_goals fail "zg"
    fail "z"
    fail "zg"
    refine s_for0 ?_
    fail "z"
    refine ⟨fun its Γ0 M0 t Γ' M' => ∃ (v2 : Option Ent) (v3 : Option Ent) (v4 : Option Ent) (v5 : Option Ent), Γ' = upG Γ0 [(2, v2), (3, v3), (4, v4), (5, v5)] ∧ M' = [some (.dic (kds (nums (ws.take t))))], ⟨_, _, _, _, rfl, rfl⟩, (fun _ _ _ _ hj => by first | trivial | exact LD.d | exact LD.w | (obtain ⟨v2, v3, v4, v5, rfl, rfl⟩ := hj; exact LD.r rfl)), ?_, ?_⟩
    · rintro t e Γ' M' he ⟨v2, v3, v4, v5, rfl, rfl⟩
      fail "zg"
      obtain ⟨d, hd, rfl⟩ := map_get he
      obtain ⟨p, hp, rfl⟩ := map_get hd
      have hpl := h2 p (List.mem_of_getElem? hp)
      have htk : nums (ws.take (t + 1)) = addN (nums (ws.take t)) (rdn p) := by unfold nums; rw [take_succ hp, List.foldl_append]; rfl
      have hnl : (kds (nums (ws.take t))).length < sizeLine := by
        have := nums_len (ws.take t)
        rw [List.length_take] at this
        unfold kds
        rw [List.length_map, sizeLine]
        omega
      generalize nums (ws.take t) = ns at htk hnl ⊢
      fail "z"
      · rename_i hr _
        rw [htk, hr]
        exact ⟨_, _, _, _, rfl, rfl⟩
      · rename_i v hr _ hb
        rw [isSome_kds] at hb
        obtain ⟨u, hu⟩ := Option.isSome_iff_exists.mp hb
        have hg : kGet (kds ns) (.inr v.1) = some (.int u) := by rw [get_kds, hu]; rfl
        have hadd : addN ns (some v) = if v.2 < u then putN ns v else ns := by show (match ns.lookup v.1 with | none => _ | some w => _) = _; rw [hu]
        fail "z"
        all_goals rename_i hb2
        · rw [htk, hr, hadd, if_pos hb2, ← put_kds]
          exact ⟨_, _, _, _, rfl, rfl⟩
        · rw [htk, hr, hadd, if_neg hb2]
          exact ⟨_, _, _, _, rfl, rfl⟩
      · rename_i v hr _ hb _
        rw [isSome_kds] at hb
        have hn : ns.lookup v.1 = none := Option.not_isSome_iff_eq_none.mp (by rw [hb]; decide)
        have hadd : addN ns (some v) = putN ns v := by
          show (match ns.lookup v.1 with | none => _ | some w => _) = _
          rw [hn]
          unfold putN
          rw [if_neg]
          rw [mem_look, hb]
          decide
        rw [htk, hr, hadd, ← put_kds]
        exact ⟨_, _, _, _, rfl, rfl⟩
    · rintro Γ' M' ⟨v2, v3, v4, v5, rfl, rfl⟩
      fail "zg"
      rw [List.length_map, List.length_map, List.take_length]
      fail "z"
      all_goals exact k
local macro_rules | `(tactic| focus fail "zk") => `(tactic| with_reducible refine k_least_numbers ?_ ?_ ?_)
def c_Directives___init__ (K : PySem.W.Frag) : ASp := fun es M Q X => ∃ (ws : List Str), es = [.r 0, .d (.list (ws.map PyData.str))] ∧ M = [some (.ins (He.ga K "Directives") [])] ∧ (ws.length ≤ 1000) ∧ (∀ x ∈ ws, x.length ≤ 1000) ∧ (Q (.d .none) [some (.ins (He.ga K "Directives") (dirF (dirs ws)))])
theorem k_Directives___init__ {K : PySem.W.Frag} {ws : List Str} {Q : Ent → Ms → Prop} {X : Xa} (h1 : ws.length ≤ 1000) (h2 : ∀ x ∈ ws, x.length ≤ 1000) (q_ : Q (.d .none) [some (.ins (He.ga K "Directives") (dirF (dirs ws)))]) : c_Directives___init__ K [.r 0, .d (.list (ws.map PyData.str))] [some (.ins (He.ga K "Directives") [])] Q X := ⟨ws, rfl, rfl, h1, h2, q_⟩
theorem sc_Directives___init__ : FnScope ["self", "words", "numbers"] ["self", "words"] (defScope (inClass (topS 13) 0)) := ⟨rfl, rfl, rfl, by decide +kernel, rfl, by decide +kernel, by decide +kernel⟩
theorem fk_Directives___init__ {f : Addr} {fd : FuncData} (T : Top fa fn K mg) (F : FunD K "__init__" "Directives.__init__" (defArgs (inClass (topS 13) 0)) (defBody (inClass (topS 13) 0)) (defScope (inClass (topS 13) 0)) (([] : List He.Dv).map (He.Dv.v K)) (([] : List (Str × He.Dv)).map fun q => (q.1, q.2.v K)) f fd) : FnOk P w K mg base CX0 5 f fd ["self", "words"] (spA K (c_Directives___init__ K)) := by
  have sc := sc_Directives___init__
  refine fn_ok F sc (fun es M Q X h => ?_) fun cdv A outer s H E hr => ⟨_, (pss_cons (ps_set (i := 2) sc.nd rfl (Or.inl rfl) (ke_ca (K := K) rfl (ca_least_numbers (w := w) (base := base) T) hr (by decide) rfl passN (pa_cons (pv 1) pa_nil)))
      (pss_cons (ks_fld (f := "lasts") (Cs := [He.ga K "Directives"]) (K := K) rfl (pv 0) (pe_dget1 (hu_of hr) (pv 2) pe_str ⟨by rfl, by rfl, by rfl, by rfl⟩) (fo_cons (T.fact 60 rfl) (T.fact 61 rfl) fo_nil))
      (pss_cons (ks_fld (f := "shared_lasts") (Cs := [He.ga K "Directives"]) (K := K) rfl (pv 0) (pe_dget1 (hu_of hr) (pv 2) pe_str ⟨by rfl, by rfl, by rfl, by rfl⟩) (fo_cons (T.fact 60 rfl) (T.fact 62 rfl) fo_nil))
      (pss_cons (ks_fld (f := "late") (Cs := [He.ga K "Directives"]) (K := K) rfl (pv 0) (pe_dget1 (hu_of hr) (pv 2) pe_str ⟨by rfl, by rfl, by rfl, by rfl⟩) (fo_cons (T.fact 60 rfl) (T.fact 76 rfl) fo_nil))
      (pss_cons (ks_fld (f := "on_error") (Cs := [He.ga K "Directives"]) (K := K) rfl (pv 0) (pe_dget1 (hu_of hr) (pv 2) pe_str ⟨by rfl, by rfl, by rfl, by rfl⟩) (fo_cons (T.fact 60 rfl) (T.fact 100 rfl) fo_nil))
      (pss_cons (ks_fld (f := "age") (Cs := [He.ga K "Directives"]) (K := K) rfl (pv 0) (pe_dget1 (hu_of hr) (pv 2) pe_str ⟨by rfl, by rfl, by rfl, by rfl⟩) (fo_cons (T.fact 60 rfl) (T.fact 111 rfl) fo_nil))
      (pss_cons (ks_fld (f := "fresh") (Cs := [He.ga K "Directives"]) (K := K) rfl (pv 0) (pe_dget1 (hu_of hr) (pv 2) pe_str ⟨by rfl, by rfl, by rfl, by rfl⟩) (fo_cons (T.fact 60 rfl) (T.fact 110 rfl) fo_nil))
      (pss_cons (ks_fld (f := "strict") (Cs := [He.ga K "Directives"]) (K := K) rfl (pv 0) (pe_cmpR (kIn (K := K) rfl) pe_str (pv 1) (by rfl)) (fo_cons (T.fact 60 rfl) (T.fact 78 rfl) fo_nil))
      (pss_cons (ks_fld (f := "check") (Cs := [He.ga K "Directives"]) (K := K) rfl (pv 0) (pe_cmpR (kIn (K := K) rfl) pe_str (pv 1) (by rfl)) (fo_cons (T.fact 60 rfl) (T.fact 109 rfl) fo_nil))
      (pss_cons (ks_fld (f := "own") (Cs := [He.ga K "Directives"]) (K := K) rfl (pv 0) (pe_cmpR (kIn (K := K) rfl) pe_str (pv 1) (by rfl)) (fo_cons (T.fact 60 rfl) (T.fact 63 rfl) fo_nil))
      (pss_cons (ks_fld (f := "never") (Cs := [He.ga K "Directives"]) (K := K) rfl (pv 0) (pe_cmpR (kIn (K := K) rfl) pe_str (pv 1) (by rfl)) (fo_cons (T.fact 60 rfl) (T.fact 64 rfl) fo_nil))
      (pss_cons (ks_fld (f := "kept") (Cs := [He.ga K "Directives"]) (K := K) rfl (pv 0) (pe_cmpR (kIn (K := K) rfl) pe_str (pv 1) (by rfl)) (fo_cons (T.fact 60 rfl) (T.fact 108 rfl) fo_nil))
      (pss_one (ks_fld (f := "any_late") (Cs := [He.ga K "Directives"]) (K := K) rfl (pv 0) (ke_and (K := K) rfl (pe_cmpR (kIn (K := K) rfl) pe_str (pv 1) (by rfl)) (pe_one (pe_cmpR op_isV (ke_fld (f := "late") (Cs := [He.ga K "Directives"]) (K := K) rfl (pv 0) (fo_cons (T.fact 60 rfl) (T.fact 76 rfl) fo_nil)) pe_non (nomark _)))) (fo_cons (T.fact 60 rfl) (T.fact 77 rfl) fo_nil))))))))))))))), fun es M Q X h => ?_⟩
  · obtain ⟨ws, rfl, rfl, h1, h2, k⟩ := h
    all_goals rfl
  · obtain ⟨ws, rfl, rfl, h1, h2, k⟩ := h
    all_goals try simp only [cx_K, cx_Kx, cxS_K, cxS_Kx]
    all_goals fail "zg"
    fail "z"
    all_goals refine q_of k rfl ?_
    all_goals simp only [getD_kds]
    all_goals show [some (Mo.ins _ _)] = _
    all_goals unfold dirF dirs lk
    all_goals (cases (nums ws).lookup ("late" : Str) <;> simp_all [isN])
theorem cm_Directives___init__ (T : Top fa fn K mg) : Cm P w K mg base CX0 ("Directives", some "__init__") "__init__" "Directives.__init__" (inClass (topS 13) 0) (([] : List He.Dv).map (He.Dv.v K)) (([] : List (Str × He.Dv)).map fun q => (q.1, q.2.v K)) 5 ["self", "words"] (c_Directives___init__ K) := cm_of T 38 rfl fun fd F => fk_Directives___init__ T F
theorem kz_Directives___init__ {K : PySem.W.Frag} {Q : Ent → Ms → Prop} {X : Xa} (q : Q (.d .none) [some (.ins (He.ga K "Directives") (dirF (dirs [])))]) : c_Directives___init__ K [.r 0, .d (.list [])] [some (.ins (He.ga K "Directives") [])] Q X := k_Directives___init__ (ws := []) (by decide) (fun x hx => by cases hx) q
local macro_rules | `(tactic| focus fail "zk") => `(tactic| with_reducible refine k_Directives___init__ ?_ ?_ ?_)
local macro_rules | `(tactic| focus fail "zk") => `(tactic| with_reducible refine kz_Directives___init__ ?_)
local macro_rules | `(tactic| unhygienic fail "zx") => `(tactic| ((with_reducible refine mk_dirD (r := ?r) (N := ?M9) ?h1 ?h3 ?h4 ?_); (case h1 => rfl); (case h3 => rfl); (case h4 => fail "zdm")))
def c_Setting_part (K : PySem.W.Frag) : ASp := fun es M Q X => ∃ (slf : SetR), ∃ (first : Int), ∃ (last : Int), es = [.d (setD K slf), .d (.int first), .d (.int last)] ∧ M = [] ∧ (okSt slf) ∧ (1 ≤ first) ∧ (first ≤ last) ∧ (last ≤ (slf.makes.length : Int)) ∧ (Q (.d (setD K (partS slf first last))) [])
theorem k_Setting_part {K : PySem.W.Frag} {slf : SetR} {first : Int} {last : Int} {Q : Ent → Ms → Prop} {X : Xa} (h1 : okSt slf) (h2 : 1 ≤ first) (h3 : first ≤ last) (h4 : last ≤ (slf.makes.length : Int)) (q_ : Q (.d (setD K (partS slf first last))) []) : c_Setting_part K [.d (setD K slf), .d (.int first), .d (.int last)] [] Q X := ⟨slf, first, last, rfl, rfl, h1, h2, h3, h4, q_⟩
theorem sc_Setting_part : FnScope ["self", "first", "last"] ["self", "first", "last"] (defScope (inClass (topS 33) 3)) := ⟨rfl, rfl, rfl, by decide +kernel, rfl, by decide +kernel, by decide +kernel⟩
theorem fk_Setting_part {f : Addr} {fd : FuncData} (T : Top fa fn K mg) (F : FunD K "part" "Setting.part" (defArgs (inClass (topS 33) 3)) (defBody (inClass (topS 33) 3)) (defScope (inClass (topS 33) 3)) (([] : List He.Dv).map (He.Dv.v K)) (([] : List (Str × He.Dv)).map fun q => (q.1, q.2.v K)) f fd) : FnOk P w K mg base CX0 5 f fd ["self", "first", "last"] (spA K (c_Setting_part K)) := by
  have sc := sc_Setting_part
  refine fn_ok F sc (fun es M Q X h => ?_) fun cdv A outer s H E hr => ⟨_, (pss_cons (ps_if (pt_not (pt_chain op_leU op_leU pe_int (pv 1) (ke_prA (K := K) (as := [⟨He.ga K "Setting", c_Setting_hops K, [], [], []⟩]) rfl (pv 0) (pr_cons (pro_of (K := K) rfl (T.fact 26 rfl) (T.fact 114 rfl) (cr_Setting_hops (w := w) (base := base) T) hr (by decide) (fun _ _ _ _ _ _ _ us hl => by exact match us, hl with | [_], _ => (by kernel_rfl))) pr_nil)))) (pss_one Z.ps_never) pss_nil)
      (pss_cons (ps_if (pt_not (pt_chain op_leU op_leU (pv 1) (pv 2) (ke_prA (K := K) (as := [⟨He.ga K "Setting", c_Setting_hops K, [], [], []⟩]) rfl (pv 0) (pr_cons (pro_of (K := K) rfl (T.fact 26 rfl) (T.fact 114 rfl) (cr_Setting_hops (w := w) (base := base) T) hr (by decide) (fun _ _ _ _ _ _ _ us hl => by exact match us, hl with | [_], _ => (by kernel_rfl))) pr_nil)))) (pss_one Z.ps_never) pss_nil)
      (pss_one (ps_ret (ke_mk (n := 2) (ks := ["clocks", "delays", "loses"]) (cvs := []) (ix := [0, 1, 2, 3, 4, 5]) (K := K) rfl (T.fact 112 rfl) (cm_Setting___init__ (w := w) (base := base) T) hr (by decide) rfl (T.glo 113 rfl) (fun fd B => kbN B 3 ["clocks", "delays", "loses"] [] [0, 1, 2, 3, 4, 5] rfl (by kernel_rfl) (fun us its mv ws h1 h2 h3 h4 => by exact match us, its, mv, ws, h1, h2, h3, h4 with | [_, _, _], [], [_, _, _], [_, _, _], _, _, _, _ => (by kernel_rfl))) passN (pa_cons (pe_slice (kSl (K := K) rfl) (ke_fld (f := "makes") (Cs := [He.ga K "Setting"]) (K := K) rfl (pv 0) (fo_cons (T.fact 26 rfl) (T.fact 27 rfl) fo_nil)) (po_some (pe_op op_sub (pv 1) pe_int)) (po_some (pv 2))) (pa_cons (ke_fld (f := "kind") (Cs := [He.ga K "Setting"]) (K := K) rfl (pv 0) (fo_cons (T.fact 26 rfl) (T.fact 97 rfl) fo_nil)) pa_nil)) (pk_cons (pe_op (kAdd (K := K) rfl) (pe_slice (kSl (K := K) rfl) (ke_fld (f := "clocks") (Cs := [He.ga K "Setting"]) (K := K) rfl (pv 0) (fo_cons (T.fact 26 rfl) (T.fact 96 rfl) fo_nil)) (po_some (pe_op op_sub (pv 1) pe_int)) (po_some (pv 2))) (pe_slice (kSl (K := K) rfl) (ke_fld (f := "clocks") (Cs := [He.ga K "Setting"]) (K := K) rfl (pv 0) (fo_cons (T.fact 26 rfl) (T.fact 96 rfl) fo_nil)) (po_some (pe_un un_neg pe_int)) po_none)) (pk_cons (pe_slice (kSl (K := K) rfl) (ke_fld (f := "delays") (Cs := [He.ga K "Setting"]) (K := K) rfl (pv 0) (fo_cons (T.fact 26 rfl) (T.fact 93 rfl) fo_nil)) (po_some (pe_op op_sub (pv 1) pe_int)) (po_some (pv 2))) (pk_cons (ke_fld (f := "loses") (Cs := [He.ga K "Setting"]) (K := K) rfl (pv 0) (fo_cons (T.fact 26 rfl) (T.fact 91 rfl) fo_nil)) pk_nil)))))))), fun es M Q X h => ?_⟩
  · obtain ⟨slf, first, last, rfl, rfl, h1, h2, h3, h4, k⟩ := h
    all_goals rfl
  · obtain ⟨slf, first, last, rfl, rfl, h1, h2, h3, h4, k⟩ := h
    all_goals try simp only [cx_K, cx_Kx, cxS_K, cxS_Kx]
    all_goals fail "zg"
    have n1 := h1.n1
    have n2 := h1.n2
    have n3 := h1.cl
    have n4 := h1.dl
    have n5 := h1.dx
    fail "z"
    all_goals first
      | (exfalso; omega)
      | omega
      | (simp only [sizeLine, cutD_map (show (0 : Int) ≤ first - 1 by omega) (show (0 : Int) ≤ last by omega), cutD_end n3, List.length_map, List.length_drop, List.length_take]; omega)
      | skip
    have hi : (0 : Int) ≤ first - 1 := by omega
    have hj : (0 : Int) ≤ last := by omega
    have e1 : ((slf.makes.take last.toNat).drop (first - 1).toNat).length = (last - first + 1).toNat := by rw [List.length_drop, List.length_take]; omega
    have e2 : ((slf.clocks.take last.toNat).drop (first - 1).toNat ++ slf.clocks.drop slf.makes.length).length = (last - first + 1).toNat + 1 := by rw [List.length_append, List.length_drop, List.length_take, List.length_drop]; omega
    have e3 : ((slf.delays.take last.toNat).drop (first - 1).toNat).length = (last - first + 1).toNat := by rw [List.length_drop, List.length_take]; omega
    rw [cutD_map hi hj, cutD_map hi hj, cutD_map hi hj, cutD_end n3, ← List.map_append]
    fail "z"
    all_goals first
      | exact k
      | (refine ⟨by omega, by omega, fun l e => ?_, fun l e => ?_⟩
         · cases e
           omega
         · cases e
           exact ⟨by omega, fun x hx => n5 x (List.mem_of_mem_take (List.mem_of_mem_drop hx))⟩)
      | trace_state
theorem cm_Setting_part (T : Top fa fn K mg) : Cm P w K mg base CX0 ("Setting", some "part") "part" "Setting.part" (inClass (topS 33) 3) (([] : List He.Dv).map (He.Dv.v K)) (([] : List (Str × He.Dv)).map fun q => (q.1, q.2.v K)) 5 ["self", "first", "last"] (c_Setting_part K) := cm_of T 39 rfl fun fd F => fk_Setting_part T F
local macro_rules | `(tactic| focus fail "zk") => `(tactic| with_reducible refine k_Setting_part ?_ ?_ ?_ ?_ ?_)
def c_l_make (K : PySem.W.Frag) : ASp := fun es M Q X => ∃ (r : MkRow), es = [.d (rowD r)] ∧ M = [] ∧ (okMk r) ∧ (Q (.d (mkD K (mkOf r))) [])
theorem k_l_make {K : PySem.W.Frag} {r : MkRow} {Q : Ent → Ms → Prop} {X : Xa} (h1 : okMk r) (q_ : Q (.d (mkD K (mkOf r))) []) : c_l_make K [.d (rowD r)] [] Q X := ⟨r, rfl, rfl, h1, q_⟩
theorem sc_l_make : FnScope ["_law_row"] ["_law_row"] (defScope (topS 52)) := ⟨rfl, rfl, rfl, by decide +kernel, rfl, by decide +kernel, by decide +kernel⟩
theorem ca_l_make (T : Top fa fn K mg) : Ca P w K mg base CX0 "_law_make" (topS 52) 5 ["_law_row"] (c_l_make K) := by
  have sc := sc_l_make
  refine ca_of T 40 121 rfl rfl (fun _ _ _ _ _ _ us hl => by exact match us, hl with | [_], _ => rfl) fun fd F => fn_ok F sc (fun es M Q X h => ?_) fun cdv A outer s H E hr => ⟨_, (pss_cons (ps_if (pt_cmpR (kEq (K := K) rfl hr.units) (pv 0) (pe_tup (pa_cons pe_int (pa_cons pe_bl (pa_cons pe_int (pa_cons pe_int (pa_cons pe_bl (pa_cons pe_bl (pa_cons pe_bl (pa_cons pe_bl (pa_cons pe_int (pa_cons pe_int (pa_cons pe_int pa_nil)))))))))))) (nomark _)) (pss_one (ps_ret (ke_mk0 (ks := []) (cvs := [.bl true, .int (0), .int (0), .bl true, .bl false, .bl true, .int (0), .int (0), .bl false, .int (8)]) (ix := [0, 1, 2, 3, 4, 5, 6, 7, 8, 9, 10]) (K := K) rfl (T.fact 115 rfl) (cm_Make___init__ (w := w) (base := base) T) hr (by decide) rfl (T.glo 116 rfl) (fun fd B => kbN B 1 [] [0, 1, 2, 3, 4, 5, 6, 7, 8, 9] [0, 1, 2, 3, 4, 5, 6, 7, 8, 9, 10] rfl (by kernel_rfl) (fun us its mv ws h1 h2 h3 h4 => by exact match us, its, mv, ws, h1, h2, h3, h4 with | [_], [], [_, _, _, _, _, _, _, _, _, _], [], _, _, _, _ => (by kernel_rfl))) passN pk_nil))) pss_nil)
      (pss_cons (ps_if (pt_cmpR (kEq (K := K) rfl hr.units) (pe_ix (kIx (K := K) rfl) (pv 0) pe_int (fun _ _ => rfl)) pe_int (nomark _)) (pss_one (ps_ret (ke_mk0 (ks := ["shared", "grace", "error_grace", "tells", "dates", "checks", "durable", "share", "cap", "room"]) (cvs := []) (ix := [0, 1, 2, 3, 4, 5, 6, 8, 9, 7, 10]) (K := K) rfl (T.fact 119 rfl) (cm_StrictMake___init__ (w := w) (base := base) T) hr (by decide) rfl (T.glo 120 rfl) (fun fd B => kbN B 1 ["shared", "grace", "error_grace", "tells", "dates", "checks", "durable", "share", "cap", "room"] [] [0, 1, 2, 3, 4, 5, 6, 8, 9, 7, 10] rfl (by kernel_rfl) (fun us its mv ws h1 h2 h3 h4 => by exact match us, its, mv, ws, h1, h2, h3, h4 with | [_], [], [_, _, _, _, _, _, _, _, _, _], [_, _, _, _, _, _, _, _, _, _], _, _, _, _ => (by kernel_rfl))) passN (pk_cons (pe_ix (kIx (K := K) rfl) (pv 0) pe_int (fun _ _ => rfl)) (pk_cons (pe_ix (kIx (K := K) rfl) (pv 0) pe_int (fun _ _ => rfl)) (pk_cons (pe_ix (kIx (K := K) rfl) (pv 0) pe_int (fun _ _ => rfl)) (pk_cons (pe_ix (kIx (K := K) rfl) (pv 0) pe_int (fun _ _ => rfl)) (pk_cons (pe_ix (kIx (K := K) rfl) (pv 0) pe_int (fun _ _ => rfl)) (pk_cons (pe_ix (kIx (K := K) rfl) (pv 0) pe_int (fun _ _ => rfl)) (pk_cons (pe_ix (kIx (K := K) rfl) (pv 0) pe_int (fun _ _ => rfl)) (pk_cons (pe_ix (kIx (K := K) rfl) (pv 0) pe_int (fun _ _ => rfl)) (pk_cons (pe_ix (kIx (K := K) rfl) (pv 0) pe_int (fun _ _ => rfl)) (pk_cons (pe_ix (kIx (K := K) rfl) (pv 0) pe_int (fun _ _ => rfl)) pk_nil))))))))))))) pss_nil)
      (pss_cons (ps_if (pt_cmpR (kEq (K := K) rfl hr.units) (pe_ix (kIx (K := K) rfl) (pv 0) pe_int (fun _ _ => rfl)) pe_int (nomark _)) (pss_one (ps_ret (ke_mk0 (ks := ["grace", "error_grace", "tells", "dates", "checks", "durable", "share", "cap", "room"]) (cvs := [.bl false]) (ix := [0, 1, 2, 3, 4, 5, 6, 8, 9, 7, 10]) (K := K) rfl (T.fact 117 rfl) (cm_OwnMake___init__ (w := w) (base := base) T) hr (by decide) rfl (T.glo 118 rfl) (fun fd B => kbN B 1 ["grace", "error_grace", "tells", "dates", "checks", "durable", "share", "cap", "room"] [0] [0, 1, 2, 3, 4, 5, 6, 8, 9, 7, 10] rfl (by kernel_rfl) (fun us its mv ws h1 h2 h3 h4 => by exact match us, its, mv, ws, h1, h2, h3, h4 with | [_], [], [_, _, _, _, _, _, _, _, _, _], [_, _, _, _, _, _, _, _, _], _, _, _, _ => (by kernel_rfl))) passN (pk_cons (pe_ix (kIx (K := K) rfl) (pv 0) pe_int (fun _ _ => rfl)) (pk_cons (pe_ix (kIx (K := K) rfl) (pv 0) pe_int (fun _ _ => rfl)) (pk_cons (pe_ix (kIx (K := K) rfl) (pv 0) pe_int (fun _ _ => rfl)) (pk_cons (pe_ix (kIx (K := K) rfl) (pv 0) pe_int (fun _ _ => rfl)) (pk_cons (pe_ix (kIx (K := K) rfl) (pv 0) pe_int (fun _ _ => rfl)) (pk_cons (pe_ix (kIx (K := K) rfl) (pv 0) pe_int (fun _ _ => rfl)) (pk_cons (pe_ix (kIx (K := K) rfl) (pv 0) pe_int (fun _ _ => rfl)) (pk_cons (pe_ix (kIx (K := K) rfl) (pv 0) pe_int (fun _ _ => rfl)) (pk_cons (pe_ix (kIx (K := K) rfl) (pv 0) pe_int (fun _ _ => rfl)) pk_nil)))))))))))) pss_nil)
      (pss_one (ps_ret (ke_mk0 (ks := ["shared", "grace", "error_grace", "tells", "dates", "checks", "durable", "share", "cap", "room"]) (cvs := []) (ix := [0, 1, 2, 3, 4, 5, 6, 8, 9, 7, 10]) (K := K) rfl (T.fact 115 rfl) (cm_Make___init__ (w := w) (base := base) T) hr (by decide) rfl (T.glo 116 rfl) (fun fd B => kbN B 1 ["shared", "grace", "error_grace", "tells", "dates", "checks", "durable", "share", "cap", "room"] [] [0, 1, 2, 3, 4, 5, 6, 8, 9, 7, 10] rfl (by kernel_rfl) (fun us its mv ws h1 h2 h3 h4 => by exact match us, its, mv, ws, h1, h2, h3, h4 with | [_], [], [_, _, _, _, _, _, _, _, _, _], [_, _, _, _, _, _, _, _, _, _], _, _, _, _ => (by kernel_rfl))) passN (pk_cons (pe_ix (kIx (K := K) rfl) (pv 0) pe_int (fun _ _ => rfl)) (pk_cons (pe_ix (kIx (K := K) rfl) (pv 0) pe_int (fun _ _ => rfl)) (pk_cons (pe_ix (kIx (K := K) rfl) (pv 0) pe_int (fun _ _ => rfl)) (pk_cons (pe_ix (kIx (K := K) rfl) (pv 0) pe_int (fun _ _ => rfl)) (pk_cons (pe_ix (kIx (K := K) rfl) (pv 0) pe_int (fun _ _ => rfl)) (pk_cons (pe_ix (kIx (K := K) rfl) (pv 0) pe_int (fun _ _ => rfl)) (pk_cons (pe_ix (kIx (K := K) rfl) (pv 0) pe_int (fun _ _ => rfl)) (pk_cons (pe_ix (kIx (K := K) rfl) (pv 0) pe_int (fun _ _ => rfl)) (pk_cons (pe_ix (kIx (K := K) rfl) (pv 0) pe_int (fun _ _ => rfl)) (pk_cons (pe_ix (kIx (K := K) rfl) (pv 0) pe_int (fun _ _ => rfl)) pk_nil)))))))))))))))), fun es M Q X h => ?_⟩
  · obtain ⟨r, rfl, rfl, h1, k⟩ := h
    all_goals rfl
  · obtain ⟨r, rfl, rfl, h1, k⟩ := h
    all_goals try simp only [cx_K, cx_Kx]
    all_goals fail "zg"
    obtain ⟨⟨g1, g2⟩, g3, g4, ⟨g5, g6⟩, ⟨g7, g8⟩, g9, g10, g11⟩ := h1
    obtain ⟨sort, sh, gr, eg, te, da, ch, du, share, cap, room⟩ := r
    dsimp only at g1 g2 g3 g4 g5 g6 g7 g8 g9 g10 g11
    unfold rowD mkD mkOf at *
    dsimp only at *
    have g40 := fun g (e : gr = some g) => (g4 g e).1
    rcases gr with _ | g
    all_goals try have g41 := g40 _ rfl
    all_goals fail "z"
    all_goals first
      | (rename_i hb; rw [if_pos hb] at k; exact k)
      | (rename_i hb1 hb; rw [if_neg hb1, if_pos hb] at k; rw [g3 hb] at k; exact k)
      | (rename_i hb1 hb; rw [if_neg hb1, if_neg hb] at k; exact k)
      | (exfalso; rename_i hb; simp [PyData.eqvAll, PyData.eqv, oi] at hb; done)
      | (rename_i hb
         simp only [PyData.eqvAll, PyData.eqv, oi, Bool.and_eq_true, beq_iff_eq, Bool.and_true] at hb
         obtain ⟨rfl, rfl, rfl, rfl, rfl, rfl, rfl, rfl, rfl, rfl, rfl⟩ := hb
         exact k)
      | trace_state
local macro_rules | `(tactic| focus fail "zk") => `(tactic| with_reducible refine k_l_make ?_ ?_)
def c_l_kind (K : PySem.W.Frag) : ASp := fun es M Q X => ∃ (r : KindR), es = [.d (kdD r)] ∧ M = [] ∧ (RGood r) ∧ (Q (.d (kindD K r)) [])
theorem k_l_kind {K : PySem.W.Frag} {r : KindR} {Q : Ent → Ms → Prop} {X : Xa} (h1 : RGood r) (q_ : Q (.d (kindD K r)) []) : c_l_kind K [.d (kdD r)] [] Q X := ⟨r, rfl, rfl, h1, q_⟩
theorem sc_l_kind : FnScope ["_law_row"] ["_law_row"] (defScope (topS 53)) := ⟨rfl, rfl, rfl, by decide +kernel, rfl, by decide +kernel, by decide +kernel⟩
theorem ca_l_kind (T : Top fa fn K mg) : Ca P w K mg base CX0 "_law_kind" (topS 53) 5 ["_law_row"] (c_l_kind K) := by
  have sc := sc_l_kind
  refine ca_of T 41 124 rfl rfl (fun _ _ _ _ _ _ us hl => by exact match us, hl with | [_], _ => rfl) fun fd F => fn_ok F sc (fun es M Q X h => ?_) fun cdv A outer s H E hr => ⟨_, (pss_cons (ps_if (pt_cmpR (kEq (K := K) rfl hr.units) (pe_slice (kSlT (K := K) rfl) (pv 0) (po_some pe_int) po_none) (pe_tup (pa_cons pe_non (pa_cons pe_int (pa_cons pe_int (pa_cons pe_bl (pa_cons pe_bl (pa_cons pe_bl (pa_cons pe_bl (pa_cons pe_str (pa_cons pe_bl (pa_cons pe_int pa_nil))))))))))) (nomark _)) (pss_one (ps_ret (ke_mk (n := 1) (ks := []) (cvs := [.non, .int (0), .int (0), .bl false, .bl false, .bl false, .bl false, .str "strong", .bl false, .int (0)]) (ix := [0, 1, 2, 3, 4, 5, 6, 7, 8, 9, 10, 11]) (K := K) rfl (T.fact 122 rfl) (cm_Kind___init__ (w := w) (base := base) T) hr (by decide) rfl (T.glo 123 rfl) (fun fd B => kbN B 2 [] [0, 1, 2, 3, 4, 5, 6, 7, 8, 9] [0, 1, 2, 3, 4, 5, 6, 7, 8, 9, 10, 11] rfl (by kernel_rfl) (fun us its mv ws h1 h2 h3 h4 => by exact match us, its, mv, ws, h1, h2, h3, h4 with | [_, _], [], [_, _, _, _, _, _, _, _, _, _], [], _, _, _, _ => (by kernel_rfl))) passN (pa_cons (pe_ix (kIx (K := K) rfl) (pv 0) pe_int (fun _ _ => rfl)) pa_nil) pk_nil))) pss_nil)
      (pss_one (ps_ret (ke_mk (n := 1) (ks := ["shared_lasts", "late", "on_error", "strict", "check", "own", "never", "mark", "dated", "margin"]) (cvs := []) (ix := [0, 1, 2, 3, 4, 5, 6, 7, 8, 9, 10, 11]) (K := K) rfl (T.fact 122 rfl) (cm_Kind___init__ (w := w) (base := base) T) hr (by decide) rfl (T.glo 123 rfl) (fun fd B => kbN B 2 ["shared_lasts", "late", "on_error", "strict", "check", "own", "never", "mark", "dated", "margin"] [] [0, 1, 2, 3, 4, 5, 6, 7, 8, 9, 10, 11] rfl (by kernel_rfl) (fun us its mv ws h1 h2 h3 h4 => by exact match us, its, mv, ws, h1, h2, h3, h4 with | [_, _], [], [_, _, _, _, _, _, _, _, _, _], [_, _, _, _, _, _, _, _, _, _], _, _, _, _ => (by kernel_rfl))) passN (pa_cons (pe_ix (kIx (K := K) rfl) (pv 0) pe_int (fun _ _ => rfl)) pa_nil) (pk_cons (pe_ix (kIx (K := K) rfl) (pv 0) pe_int (fun _ _ => rfl)) (pk_cons (pe_ix (kIx (K := K) rfl) (pv 0) pe_int (fun _ _ => rfl)) (pk_cons (pe_ix (kIx (K := K) rfl) (pv 0) pe_int (fun _ _ => rfl)) (pk_cons (pe_ix (kIx (K := K) rfl) (pv 0) pe_int (fun _ _ => rfl)) (pk_cons (pe_ix (kIx (K := K) rfl) (pv 0) pe_int (fun _ _ => rfl)) (pk_cons (pe_ix (kIx (K := K) rfl) (pv 0) pe_int (fun _ _ => rfl)) (pk_cons (pe_ix (kIx (K := K) rfl) (pv 0) pe_int (fun _ _ => rfl)) (pk_cons (pe_ix (kIx (K := K) rfl) (pv 0) pe_int (fun _ _ => rfl)) (pk_cons (pe_ix (kIx (K := K) rfl) (pv 0) pe_int (fun _ _ => rfl)) (pk_cons (pe_ix (kIx (K := K) rfl) (pv 0) pe_int (fun _ _ => rfl)) pk_nil)))))))))))))), fun es M Q X h => ?_⟩
  · obtain ⟨r, rfl, rfl, h1, k⟩ := h
    all_goals rfl
  · obtain ⟨r, rfl, rfl, h1, k⟩ := h
    all_goals try simp only [cx_K, cx_Kx]
    all_goals fail "zg"
    unfold kdD valsD at *
    have hm := h1.2.2.2.2.1
    have hms : okS r.mark = true := by
      have : ∀ x ∈ MARKS, okS x = true := by decide +kernel
      exact this _ hm
    obtain ⟨la, sh, lt, oe, st, ck, ow, ne, mk, da, ma⟩ := r
    dsimp only at *
    fail "z"
    rw [show cutD [oi la, oi sh, .int lt, .int oe, .bool st, .bool ck, .bool ow, .bool ne, .str mk, .bool da, .int ma] (some 1) none = [oi sh, .int lt, .int oe, .bool st, .bool ck, .bool ow, .bool ne, .str mk, .bool da, .int ma] from rfl]
    have hfl : ([oi sh, .int lt, .int oe, .bool st, .bool ck, .bool ow, .bool ne, .str mk, .bool da, .int ma] : List PyData).all flatOk = true := by
      cases sh <;> simp [flatOk, oi, hms]
    have hf2 : ([.none, .int 0, .int 0, .bool false, .bool false, .bool false, .bool false, .str (Str.ofString "strong"), .bool false, .int 0] : List PyData).all flatOk = true := by decide +kernel
    fail "z"
    all_goals first
      | exact k
      | exact h1
      | (exact ⟨h1.1, rfl, rfl, rfl, (by decide +kernel : Str.ofString "strong" ∈ MARKS), rfl⟩)
      | (rename_i hb
         rcases sh with _ | v
         · simp only [PyData.eqvAll, PyData.eqv, oi, Bool.and_eq_true, beq_iff_eq, Bool.and_true] at hb
           obtain ⟨-, rfl, rfl, rfl, rfl, rfl, rfl, rfl, rfl, rfl⟩ := hb
           exact k
         · exfalso; simp [PyData.eqvAll, PyData.eqv, oi] at hb)
      | trace_state
local macro_rules | `(tactic| focus fail "zk") => `(tactic| with_reducible refine k_l_kind ?_ ?_)
def c_l_setting (K : PySem.W.Frag) : ASp := fun es M Q X => ∃ (w : WoR), es = [.r 0] ∧ M = [some (.dic (worldK w))] ∧ (okW w) ∧ (Q (.d (setD K (setW w))) [some (.dic (worldK w))])
theorem k_l_setting {K : PySem.W.Frag} {w : WoR} {Q : Ent → Ms → Prop} {X : Xa} (h1 : okW w) (q_ : Q (.d (setD K (setW w))) [some (.dic (worldK w))]) : c_l_setting K [.r 0] [some (.dic (worldK w))] Q X := ⟨w, rfl, rfl, h1, q_⟩
theorem sc_l_setting : FnScope ["_law_world_here", "_law_makes", "_law_row", "_law_content", "_law_spans", "_law_links", "_law_hands", "_law_pair"] ["_law_world_here"] (defScope (topS 54)) := ⟨rfl, rfl, rfl, by decide +kernel, rfl, by decide +kernel, by decide +kernel⟩
theorem ca_l_setting (T : Top fa fn K mg) : Ca P w K mg base CX0 "_law_setting" (topS 54) 6 ["_law_world_here"] (c_l_setting K) := by
  have sc := sc_l_setting
  refine ca_of T 42 125 rfl rfl (fun _ _ _ _ _ _ us hl => by exact match us, hl with | [_], _ => rfl) fun fd F => fn_ok F sc (fun es M Q X h => ?_) fun cdv A outer s H E hr => ⟨_, (pss_cons (ps_setLc (i := 1) (own := [("_law_row", 2)]) (g := (gName 2)) (tt := tYes) rfl sc.nd rfl rfl (sw_true rfl rfl rfl (by decide +kernel)) (ki_list (K := K) rfl (pe_dget (hu_of hr) (pv 0) pe_str (fun _ _ => rfl))) (blkOk_by (own := [("_law_row", 2)]) (N := ["_law_world_here", "_law_makes", "_law_row", "_law_content", "_law_spans", "_law_links", "_law_hands", "_law_pair"]) (sc := defScope (topS 54)) (by decide +kernel)) (fun _ _ _ _ _ => (pg_name (i := 2) sc.nd rfl (Or.inl rfl))) (fun _ _ _ _ _ => pts_nil) (fun _ _ _ _ _ => (ke_ca (K := K) rfl (ca_l_make (w := w) (base := base) T) hr (by decide) rfl passN (pa_cons (pv 2) pa_nil))))
      (pss_cons (ps_set (i := 3) sc.nd rfl (Or.inl rfl) (ke_ca (K := K) rfl (ca_l_kind (w := w) (base := base) T) hr (by decide) rfl passN (pa_cons (pe_dget (hu_of hr) (pv 0) pe_str (fun _ _ => rfl)) pa_nil)))
      (pss_cons (ps_set (i := 4) sc.nd rfl (Or.inl rfl) (pe_dget (hu_of hr) (pv 0) pe_str (fun _ _ => rfl)))
      (pss_cons (ps_set (i := 5) sc.nd rfl (Or.inl rfl) (pe_dget (hu_of hr) (pv 0) pe_str (fun _ _ => rfl)))
      (pss_cons (ps_if (PW.pt (pw_and (pt_cmpR op_isV (pv 4) pe_non (nomark _)) (pw_and (pt_cmpR op_isV (pv 5) pe_non (nomark _)) (pw_and1 (pt_not (kt_tru (K := K) rfl (pe_dget (hu_of hr) (pv 0) pe_str (fun _ _ => rfl)) (by intro _; rfl))))))) (pss_one (ps_ret (ke_mk (n := 2) (ks := []) (cvs := [.non, .non, .bl false]) (ix := [0, 1, 2, 3, 4, 5]) (K := K) rfl (T.fact 112 rfl) (cm_Setting___init__ (w := w) (base := base) T) hr (by decide) rfl (T.glo 113 rfl) (fun fd B => kbN B 3 [] [0, 1, 2] [0, 1, 2, 3, 4, 5] rfl (by kernel_rfl) (fun us its mv ws h1 h2 h3 h4 => by exact match us, its, mv, ws, h1, h2, h3, h4 with | [_, _, _], [], [_, _, _], [], _, _, _, _ => (by kernel_rfl))) passN (pa_cons (pv 1) (pa_cons (pv 3) pa_nil)) pk_nil))) pss_nil)
      (pss_cons (ps_set (i := 6) sc.nd rfl (Or.inl rfl) (pe_ifExp (pt_cmpR op_isV (pv 4) pe_non (nomark _)) pe_non (pe_lc (own := [("_law_pair", 7)]) (g := (gName 7)) (tt := tYes) rfl sc.nd (ki_list (K := K) rfl (pv 4)) (blkOk_by (own := [("_law_pair", 7)]) (N := ["_law_world_here", "_law_makes", "_law_row", "_law_content", "_law_spans", "_law_links", "_law_hands", "_law_pair"]) (sc := defScope (topS 54)) (by decide +kernel)) (fun _ _ _ _ _ => (pg_name (i := 7) sc.nd rfl (Or.inl rfl))) (fun _ _ _ _ _ => pts_nil) (fun _ _ _ _ _ => (ke_mk (n := 2) (ks := []) (cvs := []) (ix := [0, 1, 2]) (K := K) rfl (T.fact 94 rfl) (cm_Clock___init__ (w := w) (base := base) T) hr (by decide) rfl (T.glo 95 rfl) (fun fd B => kbN B 3 [] [] [0, 1, 2] rfl (by kernel_rfl) (fun us its mv ws h1 h2 h3 h4 => by exact match us, its, mv, ws, h1, h2, h3, h4 with | [_, _, _], [_, _], [], [], _, _, _, _ => (by kernel_rfl))) passN (pa_cons (pe_ix (kIx (K := K) rfl) (pv 7) pe_int (fun _ _ => rfl)) (pa_cons (pe_ix (kIx (K := K) rfl) (pv 7) pe_int (fun _ _ => rfl)) pa_nil)) pk_nil)))))
      (pss_one (ps_ret (ke_mk (n := 2) (ks := ["clocks", "delays", "loses"]) (cvs := []) (ix := [0, 1, 2, 3, 4, 5]) (K := K) rfl (T.fact 112 rfl) (cm_Setting___init__ (w := w) (base := base) T) hr (by decide) rfl (T.glo 113 rfl) (fun fd B => kbN B 3 ["clocks", "delays", "loses"] [] [0, 1, 2, 3, 4, 5] rfl (by kernel_rfl) (fun us its mv ws h1 h2 h3 h4 => by exact match us, its, mv, ws, h1, h2, h3, h4 with | [_, _, _], [], [_, _, _], [_, _, _], _, _, _, _ => (by kernel_rfl))) passN (pa_cons (pv 1) (pa_cons (pv 3) pa_nil)) (pk_cons (pv 6) (pk_cons (pe_ifExp (pt_cmpR op_isV (pv 5) pe_non (nomark _)) pe_non (pe_callTy (kList (K := K) rfl) (by rfl) (T.free 92 rfl) (by decide +kernel) (pa_cons (pv 5) pa_nil))) (pk_cons (pe_dget (hu_of hr) (pv 0) pe_str (fun _ _ => rfl)) pk_nil)))))))))))), fun es M Q X h => ?_⟩
  · obtain ⟨w, rfl, rfl, h1, k⟩ := h
    all_goals rfl
  · obtain ⟨w, rfl, rfl, h1, k⟩ := h
    all_goals try simp only [cx_K, cx_Kx]
    all_goals fail "zg"
    have wk_0 := wk_hops w
    have wk_1 := wk_makes w
    have wk_2 := wk_kind w
    have wk_3 := wk_spans w
    have wk_4 := wk_links w
    have wk_5 := wk_lossy w
    
    have hgood := w_good h1
    have hn1 := h1.n1
    have hn2 := h1.n2
    have hmc := h1.mc
    have hmo := h1.mo
    have hkd := h1.kd
    have hsl := h1.sl
    have hsx := h1.sx
    have hll := h1.ll
    unfold setW at k
    obtain ⟨hops, makes, kind, spans, links, lossy⟩ := w
    dsimp only at *
    fail "z"
    refine w_lcE (wp_name (by simp)) ?_
    fail "z"
    refine ⟨MkRow, makes, fun z => .d (rowD z), fun _ => true, fun z => mkD K (mkOf z), by first | rfl | (rw [List.map_map]; rfl), by rw [sizeLine]; omega, by first | exact LD.d | exact LD.r rfl | trivial, fun z hz => ?_, ?_⟩
    · fail "z"
      all_goals first
        | exact hmo z hz
        | assumption
        | trace_state
    try rw [List.filter_eq_self.mpr (fun _ _ => rfl)]
    rw [show makes.map (fun z => mkD K (mkOf z)) = (makes.map mkOf).map (mkD K) by rw [List.map_map]; rfl]
    rcases spans with _ | spl <;> rcases links with _ | lkl <;> dsimp only [spD, odlE, clW, Option.map_none, Option.map_some] at * <;> fail "z"
    any_goals (
      refine w_lcE (wp_name (by simp)) ?_
      fail "z"
      refine ⟨Int × Int, spl, fun z => .d (prI z), fun _ => true, fun z => clockD K ⟨z.1, z.2⟩, by first | rfl | (rw [List.map_map]; rfl), by have := hsl _ rfl; rw [sizeLine]; omega, by first | exact LD.d | exact LD.r rfl | trivial, fun z hz => ?_, ?_⟩
      · have hzz := hsx _ rfl z hz
        fail "z"
        all_goals first
          | omega
          | assumption
          | trace_state
      rw [List.filter_eq_self.mpr (fun _ _ => rfl)]
      rw [show spl.map (fun z => clockD K ⟨z.1, z.2⟩) = (spl.map (fun p : Int × Int => (⟨p.1, p.2⟩ : ClockR))).map (clockD K) by rw [List.map_map]; rfl]
      fail "z")
    all_goals first
      | exact hgood
      | exact k
      | (rename_i hb; subst hb; exact k)
      | exact hkd
      | trace_state
local macro_rules | `(tactic| focus fail "zk") => `(tactic| with_reducible refine k_l_setting ?_ ?_)
def c_Directives_read (K : PySem.W.Frag) : ASp := fun es M Q X => ∃ o : Option Str, es = [.d (match o with | none => .none | some s => .str s)] ∧ M = [] ∧ (∀ s, o = some s → s.length ≤ 900) ∧ Q (.d (dirD K (match o with | none => dirs [] | some s => dirs (wordsS s)))) []
theorem kn_Directives_read {K : PySem.W.Frag} {Q : Ent → Ms → Prop} {X : Xa} (q : Q (.d (dirD K (dirs []))) []) : c_Directives_read K [.d .none] [] Q X := ⟨none, rfl, rfl, fun s h => (nomatch h), q⟩
theorem ks_Directives_read {K : PySem.W.Frag} {s : Str} {Q : Ent → Ms → Prop} {X : Xa} (h : s.length ≤ 900) (q : Q (.d (dirD K (dirs (wordsS s)))) []) : c_Directives_read K [.d (.str s)] [] Q X := ⟨some s, rfl, rfl, fun t e => by cases e; exact h, q⟩
theorem sc_Directives_read : FnScope ["text"] ["text"] (defScope (inClass (topS 13) 1)) := ⟨rfl, rfl, rfl, by decide +kernel, rfl, by decide +kernel, by decide +kernel⟩
theorem fk_Directives_read {f : Addr} {fd : FuncData} (T : Top fa fn K mg) (F : FunD K "read" "Directives.read" (defArgs (inClass (topS 13) 1)) (defBody (inClass (topS 13) 1)) (defScope (inClass (topS 13) 1)) (([] : List He.Dv).map (He.Dv.v K)) (([] : List (Str × He.Dv)).map fun q => (q.1, q.2.v K)) f fd) : FnOk P w K mg base CX0 7 f fd ["text"] (spA K (c_Directives_read K)) := by
  have sc := sc_Directives_read
  refine fn_ok F sc (fun es M Q X h => ?_) fun cdv A outer s H E hr => ⟨_, (pss_cons (ps_if (pt_cmpR op_isV (pv 0) pe_non (nomark _)) (pss_one (ps_ret (ke_mk (n := 1) (ks := []) (cvs := []) (ix := [0, 1]) (K := K) rfl (T.fact 126 rfl) (cm_Directives___init__ (w := w) (base := base) T) hr (by decide) rfl (T.glo 127 rfl) (fun fd B => kb00 B 2 [] [0, 1] (fun _ _ _ _ _ _ _ us ws h1 h2 => by exact match us, ws, h1, h2 with | [_, _], [], _, _ => (by kernel_rfl))) passN (pa_cons (pe_lst pa_nil) pa_nil) pk_nil))) pss_nil)
      (pss_one (ps_ret (ke_mk (n := 1) (ks := []) (cvs := []) (ix := [0, 1]) (K := K) rfl (T.fact 126 rfl) (cm_Directives___init__ (w := w) (base := base) T) hr (by decide) rfl (T.glo 127 rfl) (fun fd B => kb00 B 2 [] [0, 1] (fun _ _ _ _ _ _ _ us ws h1 h2 => by exact match us, ws, h1, h2 with | [_, _], [], _, _ => (by kernel_rfl))) passN (pa_cons (ke_ca (K := K) rfl (ca_list_elements (w := w) (base := base) T) hr (by decide) rfl passN (pa_cons (pv 0) pa_nil)) pa_nil) pk_nil)))), fun es M Q X h => ?_⟩
  · obtain ⟨o, rfl, rfl, h1, k⟩ := h
    all_goals rfl
  · obtain ⟨o, rfl, rfl, h1, k⟩ := h
    all_goals try simp only [cx_K, cx_Kx, cxS_K, cxS_Kx]
    all_goals fail "zg"
    cases o with
    | none =>
      fail "z"
      all_goals exact k
    | some s =>
      have h2 := h1 s rfl
      have hnum : (wordsS s).length ≤ 1000 := Nat.le_trans (words_num s) (by omega)
      have hwl : ∀ x ∈ wordsS s, x.length ≤ 1000 := fun x hx => Nat.le_trans (words_len hx) (by omega)
      fail "z"
      all_goals exact k
theorem cr_Directives_read (T : Top fa fn K mg) : Cr P w K mg base CX0 ("Directives", some "read") "read" "Directives.read" (inClass (topS 13) 1) (([] : List He.Dv).map (He.Dv.v K)) (([] : List (Str × He.Dv)).map fun q => (q.1, q.2.v K)) 7 ["text"] (c_Directives_read K) := cr_of T 43 rfl fun fd F => fk_Directives_read T F
local macro_rules | `(tactic| focus fail "zk") => `(tactic| with_reducible refine ks_Directives_read ?_ ?_)
local macro_rules | `(tactic| focus fail "zk") => `(tactic| with_reducible refine kn_Directives_read ?_)
def c_kind_directives (K : PySem.W.Frag) : ASp := fun es M Q X => ∃ (kd : KindR), es = [.d (kindD K kd)] ∧ M = [] ∧ (RGood kd) ∧ (Q (.d (dirD K (dirK kd))) [])
theorem k_kind_directives {K : PySem.W.Frag} {kd : KindR} {Q : Ent → Ms → Prop} {X : Xa} (h1 : RGood kd) (q_ : Q (.d (dirD K (dirK kd))) []) : c_kind_directives K [.d (kindD K kd)] [] Q X := ⟨kd, rfl, rfl, h1, q_⟩
theorem sc_kind_directives : FnScope ["kind"] ["kind"] (defScope (topS 25)) := ⟨rfl, rfl, rfl, by decide +kernel, rfl, by decide +kernel, by decide +kernel⟩
theorem ca_kind_directives (T : Top fa fn K mg) : Ca P w K mg base CX0 "kind_directives" (topS 25) 8 ["kind"] (c_kind_directives K) := by
  have sc := sc_kind_directives
  refine ca_of T 44 130 rfl rfl (fun _ _ _ _ _ _ us hl => by exact match us, hl with | [_], _ => rfl) fun fd F => fn_ok F sc (fun es M Q X h => ?_) fun cdv A outer s H E hr => ⟨_, (pss_one (ps_ret (ke_st (n := 1) (ks := []) (cvs := []) (ix := [0]) (K := K) rfl (stat_ok (T.fact 128 rfl)) (pe_glob rfl (T.glo 127 rfl) rfl) (cr_Directives_read (w := w) (base := base) T) hr (by decide) (fun fd B => kb00 B 1 [] [0] (fun _ _ _ _ _ _ _ us ws h1 h2 => by exact match us, ws, h1, h2 with | [_], [], _, _ => (by kernel_rfl))) passN (pa_cons (ke_meA0 (ks := []) (as := [⟨He.ga K "Kind", c_Kind_keep_field K, [], [], [0]⟩]) (K := K) rfl (pv 0) (ma_cons (mao_of (K := K) rfl (T.fact 5 rfl) (T.fact 129 rfl) (cm_Kind_keep_field (w := w) (base := base) T) hr (by decide) (fun fd B => kb00 B 1 [] [0] (fun _ _ _ _ _ _ _ us ws h1 h2 => by exact match us, ws, h1, h2 with | [_], [], _, _ => (by kernel_rfl)))) ma_nil) passN pk_nil) pa_nil) pk_nil))), fun es M Q X h => ?_⟩
  · obtain ⟨kd, rfl, rfl, h1, k⟩ := h
    all_goals rfl
  · obtain ⟨kd, rfl, rfl, h1, k⟩ := h
    all_goals try simp only [cx_K, cx_Kx]
    all_goals fail "zg"
    have hkl := Nat.le_trans (keep_len h1) (show 180 ≤ 900 by decide)
    fail "z"
    all_goals first
      | exact hkl
      | (rw [dirs_keep h1]; exact k)
      | trace_state
local macro_rules | `(tactic| focus fail "zk") => `(tactic| with_reducible refine k_kind_directives ?_ ?_)
def c_serve_limit (K : PySem.W.Frag) : ASp := fun es M Q X => ∃ (mkw : Nat), ∃ (mk : MakeR), ∃ (kd : KindR), ∃ (oe : Bool), es = [.d (makeD K mkw mk), .d (kindD K kd), .d (.bool oe)] ∧ M = [] ∧ (RGood kd) ∧ (0 ≤ mk.share) ∧ (mk.share ≤ 100) ∧ ((tellsB mk kd = true → Q (.d (oi (limR mkw mk kd oe))) []) ∧ (tellsB mk kd = false → X (NLv K) [] []))
theorem k_serve_limit {K : PySem.W.Frag} {mkw : Nat} {mk : MakeR} {kd : KindR} {oe : Bool} {Q : Ent → Ms → Prop} {X : Xa} (h1 : RGood kd) (h2 : 0 ≤ mk.share) (h3 : mk.share ≤ 100) (q_ : (tellsB mk kd = true → Q (.d (oi (limR mkw mk kd oe))) []) ∧ (tellsB mk kd = false → X (NLv K) [] [])) : c_serve_limit K [.d (makeD K mkw mk), .d (kindD K kd), .d (.bool oe)] [] Q X := ⟨mkw, mk, kd, oe, rfl, rfl, h1, h2, h3, q_⟩
theorem sc_serve_limit : FnScope ["make", "kind", "on_error", "wish", "directives", "extra"] ["make", "kind", "on_error"] (defScope (topS 27)) := ⟨rfl, rfl, rfl, by decide +kernel, rfl, by decide +kernel, by decide +kernel⟩
theorem ca_serve_limit (T : Top fa fn K mg) : CaQ P w K mg base (L2.CX P w) "serve_limit" (topS 27) (([] : List He.Dv).map (He.Dv.v K)) (([("on_error", He.Dv.bl false)] : List (Str × He.Dv)).map fun q => (q.1, q.2.v K)) 9 ["make", "kind", "on_error"] (c_serve_limit K) := by
  have sc := sc_serve_limit
  refine caq_of T 45 142 rfl rfl fun fd F => fn_okX F sc (fun es M Q X h => ?_) fun cdv A outer s H E hr => ⟨_, (pss_cons (ps_if (pt_not (kt_tru (K := K) rfl (ke_ca (K := K) rfl (ca_tells_lifetime (w := w) (base := base) T) hr (by decide) rfl passN (pa_cons (pv 0) (pa_cons (pv 1) pa_nil))) (by intro _; rfl))) (pss_one (ps_raiseZ rfl (takes_of rfl rfl rfl rfl) (pmk_own0Z (K := K) rfl (T.fact 141 rfl) (T.glo 140 rfl) rfl))) pss_nil)
      (pss_cons (ps_set (i := 3) sc.nd rfl (Or.inl rfl) (ke_st (n := 1) (ks := []) (cvs := []) (ix := [0]) (K := K) rfl (stat_ok (T.fact 128 rfl)) (pe_glob rfl (T.glo 127 rfl) rfl) (cr_Directives_read (w := w) (base := base) T) hr (by decide) (fun fd B => kb00 B 1 [] [0] (fun _ _ _ _ _ _ _ us ws h1 h2 => by exact match us, ws, h1, h2 with | [_], [], _, _ => (by kernel_rfl))) passN (pa_cons pe_non pa_nil) pk_nil))
      (pss_cons (ps_set (i := 4) sc.nd rfl (Or.inl rfl) (ke_ca (K := K) rfl (ca_kind_directives (w := w) (base := base) T) hr (by decide) rfl passN (pa_cons (pv 1) pa_nil)))
      (pss_cons (ps_if (PW.pt (pw_or (kt_tru (K := K) rfl (ke_fld (f := "check") (Cs := [He.ga K "Directives"]) (K := K) rfl (pv 4) (fo_cons (T.fact 60 rfl) (T.fact 109 rfl) fo_nil)) (by intro _; rfl)) (pw_or1 (pt_not (kt_tru (K := K) rfl (ke_meA (n := 2) (ks := []) (as := [⟨He.ga K "Make", c_Make_keeps K, [], [], [0, 1, 2]⟩, ⟨He.ga K "StrictMake", c_Make_keeps K, [], [], [0, 1, 2]⟩, ⟨He.ga K "OwnMake", c_Make_keeps K, [], [], [0, 1, 2]⟩]) (K := K) rfl (pv 0) (ma_cons (mao_of (K := K) rfl (T.fact 18 rfl) (T.fact 139 rfl) (cm_Make_keeps (w := w) (base := base) T) hr (by decide) (fun fd B => kb00 B 3 [] [0, 1, 2] (fun _ _ _ _ _ _ _ us ws h1 h2 => by exact match us, ws, h1, h2 with | [_, _, _], [], _, _ => (by kernel_rfl)))) (ma_cons (mao_of (K := K) rfl (T.fact 16 rfl) (T.fact 138 rfl) (cm_StrictMake_keeps (w := w) (base := base) T) hr (by decide) (fun fd B => kb00 B 3 [] [0, 1, 2] (fun _ _ _ _ _ _ _ us ws h1 h2 => by exact match us, ws, h1, h2 with | [_, _, _], [], _, _ => (by kernel_rfl)))) (ma_cons (mao_of (K := K) rfl (T.fact 14 rfl) (T.fact 137 rfl) (cm_OwnMake_keeps (w := w) (base := base) T) hr (by decide) (fun fd B => kb00 B 3 [] [0, 1, 2] (fun _ _ _ _ _ _ _ us ws h1 h2 => by exact match us, ws, h1, h2 with | [_, _, _], [], _, _ => (by kernel_rfl)))) ma_nil))) passN (pa_cons (pv 3) (pa_cons (pv 4) pa_nil)) pk_nil) (by intro _; rfl)))))) (pss_one (ps_ret pe_int)) pss_nil)
      (pss_cons (ps_if (kt_tru (K := K) rfl (pv 2) (by intro _; rfl)) (pss_one (ps_set (i := 5) sc.nd rfl (Or.inl rfl) (ke_meA (n := 2) (ks := []) (as := [⟨He.ga K "Make", c_Make_error_allowance K, [], [], [0, 1, 2]⟩, ⟨He.ga K "StrictMake", c_StrictMake_error_allowance K, [], [], [0, 1, 2]⟩, ⟨He.ga K "OwnMake", c_Make_error_allowance K, [], [], [0, 1, 2]⟩]) (K := K) rfl (pv 0) (ma_cons (mao_of (K := K) rfl (T.fact 18 rfl) (T.fact 136 rfl) (cm_Make_error_allowance (w := w) (base := base) T) hr (by decide) (fun fd B => kb00 B 3 [] [0, 1, 2] (fun _ _ _ _ _ _ _ us ws h1 h2 => by exact match us, ws, h1, h2 with | [_, _, _], [], _, _ => (by kernel_rfl)))) (ma_cons (mao_of (K := K) rfl (T.fact 16 rfl) (T.fact 135 rfl) (cm_StrictMake_error_allowance (w := w) (base := base) T) hr (by decide) (fun fd B => kb00 B 3 [] [0, 1, 2] (fun _ _ _ _ _ _ _ us ws h1 h2 => by exact match us, ws, h1, h2 with | [_, _, _], [], _, _ => (by kernel_rfl)))) (ma_cons (mao_of (K := K) rfl (T.fact 14 rfl) (T.fact 134 rfl) (cm_OwnMake_error_allowance (w := w) (base := base) T) hr (by decide) (fun fd B => kb00 B 3 [] [0, 1, 2] (fun _ _ _ _ _ _ _ us ws h1 h2 => by exact match us, ws, h1, h2 with | [_, _, _], [], _, _ => (by kernel_rfl)))) ma_nil))) passN (pa_cons (pv 3) (pa_cons (pv 4) pa_nil)) pk_nil))) (pss_one (ps_set (i := 5) sc.nd rfl (Or.inl rfl) (ke_meA (n := 2) (ks := []) (as := [⟨He.ga K "Make", c_Make_allowance K, [], [], [0, 1, 2]⟩, ⟨He.ga K "StrictMake", c_StrictMake_allowance K, [], [], [0, 1, 2]⟩, ⟨He.ga K "OwnMake", c_Make_allowance K, [], [], [0, 1, 2]⟩]) (K := K) rfl (pv 0) (ma_cons (mao_of (K := K) rfl (T.fact 18 rfl) (T.fact 103 rfl) (cm_Make_allowance (w := w) (base := base) T) hr (by decide) (fun fd B => kb00 B 3 [] [0, 1, 2] (fun _ _ _ _ _ _ _ us ws h1 h2 => by exact match us, ws, h1, h2 with | [_, _, _], [], _, _ => (by kernel_rfl)))) (ma_cons (mao_of (K := K) rfl (T.fact 16 rfl) (T.fact 102 rfl) (cm_StrictMake_allowance (w := w) (base := base) T) hr (by decide) (fun fd B => kb00 B 3 [] [0, 1, 2] (fun _ _ _ _ _ _ _ us ws h1 h2 => by exact match us, ws, h1, h2 with | [_, _, _], [], _, _ => (by kernel_rfl)))) (ma_cons (mao_of (K := K) rfl (T.fact 14 rfl) (T.fact 101 rfl) (cm_OwnMake_allowance (w := w) (base := base) T) hr (by decide) (fun fd B => kb00 B 3 [] [0, 1, 2] (fun _ _ _ _ _ _ _ us ws h1 h2 => by exact match us, ws, h1, h2 with | [_, _, _], [], _, _ => (by kernel_rfl)))) ma_nil))) passN (pa_cons (pv 3) (pa_cons (pv 4) pa_nil)) pk_nil))))
      (pss_cons (ps_if (pt_cmpR op_isV (pv 5) pe_non (nomark _)) (pss_one (ps_ret pe_non)) pss_nil)
      (pss_one (ps_ret (pe_op (kAdd (K := K) rfl) (ke_meA (n := 3) (ks := []) (as := [⟨He.ga K "Make", c_Make_lifetime K, [], [], [0, 1, 2, 3]⟩, ⟨He.ga K "StrictMake", c_Make_lifetime K, [], [], [0, 1, 2, 3]⟩, ⟨He.ga K "OwnMake", c_Make_lifetime K, [], [], [0, 1, 2, 3]⟩]) (K := K) rfl (pv 0) (ma_cons (mao_of (K := K) rfl (T.fact 18 rfl) (T.fact 133 rfl) (cm_Make_lifetime (w := w) (base := base) T) hr (by decide) (fun fd B => kb00 B 4 [] [0, 1, 2, 3] (fun _ _ _ _ _ _ _ us ws h1 h2 => by exact match us, ws, h1, h2 with | [_, _, _, _], [], _, _ => (by kernel_rfl)))) (ma_cons (mao_of (K := K) rfl (T.fact 16 rfl) (T.fact 132 rfl) (cm_StrictMake_lifetime (w := w) (base := base) T) hr (by decide) (fun fd B => kb00 B 4 [] [0, 1, 2, 3] (fun _ _ _ _ _ _ _ us ws h1 h2 => by exact match us, ws, h1, h2 with | [_, _, _, _], [], _, _ => (by kernel_rfl)))) (ma_cons (mao_of (K := K) rfl (T.fact 14 rfl) (T.fact 131 rfl) (cm_OwnMake_lifetime (w := w) (base := base) T) hr (by decide) (fun fd B => kb00 B 4 [] [0, 1, 2, 3] (fun _ _ _ _ _ _ _ us ws h1 h2 => by exact match us, ws, h1, h2 with | [_, _, _, _], [], _, _ => (by kernel_rfl)))) ma_nil))) passN (pa_cons (pv 4) (pa_cons pe_non (pa_cons pe_non pa_nil))) pk_nil) (pv 5)))))))))), fun es M Q X h => ?_⟩
  · obtain ⟨mkw, mk, kd, oe, rfl, rfl, h1, h2, h3, k⟩ := h
    all_goals rfl
  · obtain ⟨mkw, mk, kd, oe, rfl, rfl, h1, h2, h3, k⟩ := h
    all_goals try simp only [cx_K, cx_Kx]
    all_goals fail "zg"
    obtain ⟨k1, k2⟩ := k
    unfold limR at k1
    have hch : (dirK kd).check = kd.check := rfl
    fail "z"
    all_goals first
      | exact h1
      | exact h2
      | exact h3
      | exact k2 (by assumption)
      | (refine q_of (k1 (by assumption)) ?_ rfl; simp_all [allowC, eallowC, oi]; done)
      | trace_state
local macro_rules | `(tactic| focus fail "zk") => `(tactic| with_reducible refine k_serve_limit ?_ ?_ ?_ (And.intro (fun hq9 => ?_) (fun hq9 => ?_)))
def c_keeps_kind (K : PySem.W.Frag) : ASp := fun es M Q X => ∃ (mkw : Nat), ∃ (mk : MakeR), ∃ (kd : KindR), es = [.d (makeD K mkw mk), .d (kindD K kd)] ∧ M = [] ∧ (RGood kd) ∧ (Q (.d (.bool (keepM mk (dirs []) (dirK kd)))) [])
theorem k_keeps_kind {K : PySem.W.Frag} {mkw : Nat} {mk : MakeR} {kd : KindR} {Q : Ent → Ms → Prop} {X : Xa} (h1 : RGood kd) (q_ : Q (.d (.bool (keepM mk (dirs []) (dirK kd)))) []) : c_keeps_kind K [.d (makeD K mkw mk), .d (kindD K kd)] [] Q X := ⟨mkw, mk, kd, rfl, rfl, h1, q_⟩
theorem sc_keeps_kind : FnScope ["make", "kind"] ["make", "kind"] (defScope (topS 36)) := ⟨rfl, rfl, rfl, by decide +kernel, rfl, by decide +kernel, by decide +kernel⟩
theorem ca_keeps_kind (T : Top fa fn K mg) : Ca P w K mg base CX0 "keeps_kind" (topS 36) 9 ["make", "kind"] (c_keeps_kind K) := by
  have sc := sc_keeps_kind
  refine ca_of T 46 143 rfl rfl (fun _ _ _ _ _ _ us hl => by exact match us, hl with | [_, _], _ => rfl) fun fd F => fn_ok F sc (fun es M Q X h => ?_) fun cdv A outer s H E hr => ⟨_, (pss_one (ps_ret (ke_meA (n := 2) (ks := []) (as := [⟨He.ga K "Make", c_Make_keeps K, [], [], [0, 1, 2]⟩, ⟨He.ga K "StrictMake", c_Make_keeps K, [], [], [0, 1, 2]⟩, ⟨He.ga K "OwnMake", c_Make_keeps K, [], [], [0, 1, 2]⟩]) (K := K) rfl (pv 0) (ma_cons (mao_of (K := K) rfl (T.fact 18 rfl) (T.fact 139 rfl) (cm_Make_keeps (w := w) (base := base) T) hr (by decide) (fun fd B => kb00 B 3 [] [0, 1, 2] (fun _ _ _ _ _ _ _ us ws h1 h2 => by exact match us, ws, h1, h2 with | [_, _, _], [], _, _ => (by kernel_rfl)))) (ma_cons (mao_of (K := K) rfl (T.fact 16 rfl) (T.fact 138 rfl) (cm_StrictMake_keeps (w := w) (base := base) T) hr (by decide) (fun fd B => kb00 B 3 [] [0, 1, 2] (fun _ _ _ _ _ _ _ us ws h1 h2 => by exact match us, ws, h1, h2 with | [_, _, _], [], _, _ => (by kernel_rfl)))) (ma_cons (mao_of (K := K) rfl (T.fact 14 rfl) (T.fact 137 rfl) (cm_OwnMake_keeps (w := w) (base := base) T) hr (by decide) (fun fd B => kb00 B 3 [] [0, 1, 2] (fun _ _ _ _ _ _ _ us ws h1 h2 => by exact match us, ws, h1, h2 with | [_, _, _], [], _, _ => (by kernel_rfl)))) ma_nil))) passN (pa_cons (ke_st (n := 1) (ks := []) (cvs := []) (ix := [0]) (K := K) rfl (stat_ok (T.fact 128 rfl)) (pe_glob rfl (T.glo 127 rfl) rfl) (cr_Directives_read (w := w) (base := base) T) hr (by decide) (fun fd B => kb00 B 1 [] [0] (fun _ _ _ _ _ _ _ us ws h1 h2 => by exact match us, ws, h1, h2 with | [_], [], _, _ => (by kernel_rfl))) passN (pa_cons pe_non pa_nil) pk_nil) (pa_cons (ke_ca (K := K) rfl (ca_kind_directives (w := w) (base := base) T) hr (by decide) rfl passN (pa_cons (pv 1) pa_nil)) pa_nil)) pk_nil))), fun es M Q X h => ?_⟩
  · obtain ⟨mkw, mk, kd, rfl, rfl, h1, k⟩ := h
    all_goals rfl
  · obtain ⟨mkw, mk, kd, rfl, rfl, h1, k⟩ := h
    all_goals try simp only [cx_K, cx_Kx]
    all_goals fail "zg"
    fail "z"
    all_goals first
      | exact k
      | exact h1
      | trace_state
local macro_rules | `(tactic| focus fail "zk") => `(tactic| with_reducible refine k_keeps_kind ?_ ?_)
def c_limits (K : PySem.W.Frag) : ASp := fun es M Q X => ∃ (s : SetR), es = [.d (setD K s)] ∧ M = [] ∧ (okSt s) ∧ ((knownS s = true → Q (.d (.list ((limsS s).map oi))) []) ∧ (knownS s = false → X (NLv K) [] []))
theorem k_limits {K : PySem.W.Frag} {s : SetR} {Q : Ent → Ms → Prop} {X : Xa} (h1 : okSt s) (q_ : (knownS s = true → Q (.d (.list ((limsS s).map oi))) []) ∧ (knownS s = false → X (NLv K) [] [])) : c_limits K [.d (setD K s)] [] Q X := ⟨s, rfl, rfl, h1, q_⟩
theorem sc_limits : FnScope ["setting", "make"] ["setting"] (defScope (topS 34)) := ⟨rfl, rfl, rfl, by decide +kernel, rfl, by decide +kernel, by decide +kernel⟩
theorem ca_limits (T : Top fa fn K mg) : Ca P w K mg base (L2.CX P w) "limits" (topS 34) 10 ["setting"] (c_limits K) := by
  have sc := sc_limits
  refine ca_of T 47 144 rfl rfl (fun _ _ _ _ _ _ us hl => by exact match us, hl with | [_], _ => rfl) fun fd F => fn_okX F sc (fun es M Q X h => ?_) fun cdv A outer s H E hr => ⟨_, (pss_one (ps_ret (pe_lcR (own := [("make", 1)]) (g := (gName 1)) (tt := tYes) rfl sc.nd (takes_of rfl rfl rfl rfl) (fun _ _ _ _ _ h => h) rfl rfl (ki_list (K := K) rfl (ke_fld (f := "makes") (Cs := [He.ga K "Setting"]) (K := K) rfl (pv 0) (fo_cons (T.fact 26 rfl) (T.fact 27 rfl) fo_nil))) (blkOk_by (own := [("make", 1)]) (N := ["setting", "make"]) (sc := defScope (topS 34)) (by decide +kernel)) (fun _ _ _ _ _ _ => (pg_name (i := 1) sc.nd rfl (Or.inl rfl))) (fun _ _ _ _ _ _ => pts_nil) (fun _ _ _ _ _ _ pb => (ke_caQ (n := 2) (ks := ["on_error"]) (cvs := []) (ix := [0, 1, 2]) (K := K) rfl (ca_serve_limit (w := w) (base := base) T) hr (by decide) rfl pb (fun fd B => kbN B 2 ["on_error"] [] [0, 1, 2] rfl (by kernel_rfl) (fun us its mv ws h1 h2 h3 h4 => by exact match us, its, mv, ws, h1, h2, h3, h4 with | [_, _], [], [_], [_], _, _, _, _ => (by kernel_rfl))) (pa_cons (pv 1) (pa_cons (ke_fld (f := "kind") (Cs := [He.ga K "Setting"]) (K := K) rfl (pv 0) (fo_cons (T.fact 26 rfl) (T.fact 97 rfl) fo_nil)) pa_nil)) (pk_cons (ke_fld (f := "loses") (Cs := [He.ga K "Setting"]) (K := K) rfl (pv 0) (fo_cons (T.fact 26 rfl) (T.fact 91 rfl) fo_nil)) pk_nil)))))), fun es M Q X h => ?_⟩
  · obtain ⟨s, rfl, rfl, h1, k⟩ := h
    all_goals rfl
  · obtain ⟨s, rfl, rfl, h1, k⟩ := h
    all_goals try simp only [cx_K, cx_Kx]
    all_goals fail "zg"
    obtain ⟨k1, k2⟩ := k
    have hmk := h1.ms
    have hkd := h1.kd
    have hn2 := h1.n2
    fail "z"
    refine w_lc (wp_name (by simp)) ?_
    fail "z"
    refine ⟨fun i ds M' => ds = (s.makes.take i).map (fun p => oi (limR p.1 p.2 s.kind s.loses)) ∧ M' = [] ∧ ∀ p ∈ s.makes.take i, tellsB p.2 s.kind = true, ?_, ⟨by simp, rfl, fun p h => by simp at h⟩, (fun _ _ _ _ hj => by first | trivial | exact LD.d | exact LD.w), ?_, ?_⟩
    · (simp only [rgE_len, List.length_map, sizeLine]; omega)
    · intro i e ds M' he hj
      obtain ⟨rfl, rfl, hk⟩ := hj
      obtain ⟨d, hd, rfl⟩ := map_get he
      obtain ⟨p, hp, rfl⟩ := map_get hd
      obtain ⟨hs1, hs2⟩ := hmk p (List.mem_of_getElem? hp)
      unfold mkD
      fail "z"
      all_goals first
        | exact hkd
        | exact hs1
        | exact hs2
        | exact k2 (all_no (List.mem_of_getElem? hp) hq9)
        | (rename_i hq9; exact k2 (all_no (List.mem_of_getElem? hp) hq9))
        | (rename_i hq9
           show _ = List.map _ (s.makes.take (i + 1)) ∧ _ = _ ∧ ∀ q ∈ s.makes.take (i + 1), _
           rw [take_succ hp]
           exact ⟨by rw [List.map_append]; rfl, rfl, fun q hq => (List.mem_append.mp hq).elim (hk q) fun e => by rw [List.mem_singleton.mp e]; exact hq9⟩)
        | trace_state
    · intro ds M' hlen hj
      obtain ⟨rfl, rfl, hk⟩ := hj
      rw [List.length_map, List.length_map, List.take_length] at *
      fail "z"
      all_goals first
        | (refine q_of (k1 (all_take hk)) ?_ rfl; unfold limsS; rw [List.map_map]; rfl)
        | trace_state
local macro_rules | `(tactic| focus fail "zk") => `(tactic| with_reducible refine k_limits ?_ (And.intro (fun hq9 => ?_) (fun hq9 => ?_)))
def c_checking_hops (K : PySem.W.Frag) : ASp := fun es M Q X => ∃ (s : SetR), es = [.d (setD K s)] ∧ M = [] ∧ (okSt s) ∧ (∀ ns : List Int, (decide (ns.length = 0) = s.makes.all fun p => !chkB s.kind p) → Q (.d (.list (ns.map PyData.int))) [])
theorem k_checking_hops {K : PySem.W.Frag} {s : SetR} {Q : Ent → Ms → Prop} {X : Xa} (h1 : okSt s) (q_ : ∀ ns : List Int, (decide (ns.length = 0) = s.makes.all fun p => !chkB s.kind p) → Q (.d (.list (ns.map PyData.int))) []) : c_checking_hops K [.d (setD K s)] [] Q X := ⟨s, rfl, rfl, h1, q_⟩
theorem sc_checking_hops : FnScope ["setting", "at", "make"] ["setting"] (defScope (topS 37)) := ⟨rfl, rfl, rfl, by decide +kernel, rfl, by decide +kernel, by decide +kernel⟩
theorem ca_checking_hops (T : Top fa fn K mg) : Ca P w K mg base CX0 "checking_hops" (topS 37) 10 ["setting"] (c_checking_hops K) := by
  have sc := sc_checking_hops
  refine ca_of T 48 146 rfl rfl (fun _ _ _ _ _ _ us hl => by exact match us, hl with | [_], _ => rfl) fun fd F => fn_ok F sc (fun es M Q X h => ?_) fun cdv A outer s H E hr => ⟨_, (pss_one (ps_ret (pe_lc (own := [("at", 1), ("make", 2)]) (g := (gTup K 2 (gCons (gName 1) (gCons (gName 2) gNil)))) (tt := _) rfl sc.nd (pi_enum (by rfl) (T.free 145 rfl) (pa_cons (ke_fld (f := "makes") (Cs := [He.ga K "Setting"]) (K := K) rfl (pv 0) (fo_cons (T.fact 26 rfl) (T.fact 27 rfl) fo_nil)) pa_nil)) (blkOk_by (own := [("at", 1), ("make", 2)]) (N := ["setting", "at", "make"]) (sc := defScope (topS 37)) (by decide +kernel)) (fun _ _ _ _ _ => (pg_tup rfl (pgs_cons (pg_name (i := 1) sc.nd rfl (Or.inl rfl)) (pgs_cons (pg_name (i := 2) sc.nd rfl (Or.inl rfl)) pgs_nil)))) (fun _ _ _ _ _ => (pts_one (PW.pt (pw_and (kt_tru (K := K) rfl (ke_fld (f := "checks") (Cs := [He.ga K "Make", He.ga K "StrictMake", He.ga K "OwnMake"]) (K := K) rfl (pv 2) (fo_cons (T.fact 18 rfl) (T.fact 43 rfl) (fo_cons (T.fact 16 rfl) (T.fact 42 rfl) (fo_cons (T.fact 14 rfl) (T.fact 41 rfl) fo_nil)))) (by intro _; rfl)) (pw_and1 (kt_tru (K := K) rfl (ke_ca (K := K) rfl (ca_keeps_kind (w := w) (base := base) T) hr (by decide) rfl passN (pa_cons (pv 2) (pa_cons (ke_fld (f := "kind") (Cs := [He.ga K "Setting"]) (K := K) rfl (pv 0) (fo_cons (T.fact 26 rfl) (T.fact 97 rfl) fo_nil)) pa_nil))) (by intro _; rfl))))))) (fun _ _ _ _ _ => (pe_op (kAdd (K := K) rfl) (pv 1) pe_int))))), fun es M Q X h => ?_⟩
  · obtain ⟨s, rfl, rfl, h1, k⟩ := h
    all_goals rfl
  · obtain ⟨s, rfl, rfl, h1, k⟩ := h
    all_goals try simp only [cx_K, cx_Kx]
    all_goals fail "zg"
    have hkd := h1.kd
    have hn2 := h1.n2
    fail "z"
    refine w_lcE (wp_tup (wps_cons (by simp) (wps_cons (by simp) wps_nil))) ?_
    fail "z"
    refine ⟨((Nat × MakeR) × Nat), s.makes.zipIdx, fun z => .d (.tuple [.int (z.2 : Int), mkD K z.1]), fun z => chkB s.kind z.1, fun z => .int ((z.2 : Int) + 1), by first | exact enumE | rfl | (rw [List.map_map]; rfl), by rw [sizeLine]; rw [List.length_zipIdx]; omega, by first | exact LD.d | exact LD.r rfl | trivial, fun z hz => ?_, ?_⟩
    · fail "z"
      unfold mkD
      fail "z"
      all_goals first
        | exact hkd
        | (rename_i hB hq hb; unfold chkB at hq; rw [hb] at hq; exact hq)
        | assumption
        | trace_state
    skip
    rw [show (s.makes.zipIdx.filter (fun z => chkB s.kind z.1)).map (fun z => PyData.int ((z.2 : Int) + 1)) = ((s.makes.zipIdx.filter (fun z => chkB s.kind z.1)).map (fun z => (z.2 : Int) + 1)).map PyData.int by rw [List.map_map]; rfl]
    fail "z"
    exact k _ chk_len
local macro_rules | `(tactic| focus fail "zk") => `(tactic| with_reducible refine k_checking_hops ?_ ?_)
def c_sound (K : PySem.W.Frag) : ASp := fun es M Q X => ∃ (s : SetR), es = [.d (setD K s)] ∧ M = [] ∧ (okSt s) ∧ ((knownS s = true → Q (.d (.bool (soundS s))) []) ∧ (knownS s = false → X (NLv K) [] []))
theorem k_sound {K : PySem.W.Frag} {s : SetR} {Q : Ent → Ms → Prop} {X : Xa} (h1 : okSt s) (q_ : (knownS s = true → Q (.d (.bool (soundS s))) []) ∧ (knownS s = false → X (NLv K) [] [])) : c_sound K [.d (setD K s)] [] Q X := ⟨s, rfl, rfl, h1, q_⟩
theorem sc_sound : FnScope ["setting", "kind"] ["setting"] (defScope (topS 38)) := ⟨rfl, rfl, rfl, by decide +kernel, rfl, by decide +kernel, by decide +kernel⟩
theorem ca_sound (T : Top fa fn K mg) : Ca P w K mg base (L2.CX P w) "sound" (topS 38) 11 ["setting"] (c_sound K) := by
  have sc := sc_sound
  refine ca_of T 49 148 rfl rfl (fun _ _ _ _ _ _ us hl => by exact match us, hl with | [_], _ => rfl) fun fd F => fn_okX F sc (fun es M Q X h => ?_) fun cdv A outer s H E hr => ⟨_, (pss_cons (ps_expr (ke_ca (K := K) rfl (ca_limits (w := w) (base := base) T) hr (by decide) rfl (passAt (takes_of rfl rfl rfl rfl)) (pa_cons (pv 0) pa_nil)))
      (pss_cons (ps_if (pt_cmpR (kEq (K := K) rfl hr.units) (pe_callB (kLen (K := K) rfl) (by rfl) (T.free 25 rfl) (by decide +kernel) (pa_cons (ke_ca (K := K) rfl (ca_checking_hops (w := w) (base := base) T) hr (by decide) rfl passN (pa_cons (pv 0) pa_nil)) pa_nil)) pe_int (nomark _)) (pss_one (ps_ret pe_bl)) pss_nil)
      (pss_cons (ps_set (i := 1) sc.nd rfl (Or.inl rfl) (ke_fld (f := "kind") (Cs := [He.ga K "Setting"]) (K := K) rfl (pv 0) (fo_cons (T.fact 26 rfl) (T.fact 97 rfl) fo_nil)))
      (pss_cons (ps_if (pt_cmpR (kEq (K := K) rfl hr.units) (ke_fld (f := "mark") (Cs := [He.ga K "Kind"]) (K := K) rfl (pv 1) (fo_cons (T.fact 5 rfl) (T.fact 88 rfl) fo_nil)) pe_str (nomark _)) (pss_one (ps_ret pe_bl)) pss_nil)
      (pss_one (ps_ret (ke_not (K := K) rfl (ke_and (K := K) rfl (pe_cmpR (kEq (K := K) rfl hr.units) (ke_fld (f := "mark") (Cs := [He.ga K "Kind"]) (K := K) rfl (pv 1) (fo_cons (T.fact 5 rfl) (T.fact 88 rfl) fo_nil)) pe_str (nomark _)) (ke_and (K := K) rfl (ke_fld (f := "dated") (Cs := [He.ga K "Kind"]) (K := K) rfl (pv 1) (fo_cons (T.fact 5 rfl) (T.fact 87 rfl) fo_nil)) (pe_one (pe_cmpR op_leU (ke_fld (f := "margin") (Cs := [He.ga K "Kind"]) (K := K) rfl (pv 1) (fo_cons (T.fact 5 rfl) (T.fact 86 rfl) fo_nil)) (ke_prA (K := K) (as := [⟨He.ga K "Clock", c_Clock_span K, [], [], []⟩]) rfl (pe_ix (kIx (K := K) rfl) (ke_fld (f := "clocks") (Cs := [He.ga K "Setting"]) (K := K) rfl (pv 0) (fo_cons (T.fact 26 rfl) (T.fact 96 rfl) fo_nil)) (pe_un un_neg pe_int) (fun _ _ => rfl)) (pr_cons (pro_of (K := K) rfl (T.fact 21 rfl) (T.fact 147 rfl) (cr_Clock_span (w := w) (base := base) T) hr (by decide) (fun _ _ _ _ _ _ _ us hl => by exact match us, hl with | [_], _ => (by kernel_rfl))) pr_nil)) (nomark _)))))))))))), fun es M Q X h => ?_⟩
  · obtain ⟨s, rfl, rfl, h1, k⟩ := h
    all_goals rfl
  · obtain ⟨s, rfl, rfl, h1, k⟩ := h
    all_goals try simp only [cx_K, cx_Kx]
    all_goals fail "zg"
    obtain ⟨k1, k2⟩ := k
    have hcl := h1.cl
    obtain ⟨cl0, c, hc⟩ : ∃ l c, s.clocks = l ++ [c] := ⟨s.clocks.dropLast, s.clocks.getLast (fun e => by rw [e] at hcl; cases hcl), (List.dropLast_concat_getLast _).symm⟩
    have hsp : spanO s.clocks = c.behind + c.ahead := by rw [hc]; unfold spanO; simp
    clear hcl
    fail "z"
    all_goals try (rw [hc, List.map_append, List.map_cons, List.map_nil]; fail "z")
    all_goals clear hc
    all_goals first
      | exact k2 (by assumption)
      | (refine q_of (k1 (by assumption)) ?_ rfl; clear k1 k2; unfold soundS; rw [hsp]; generalize (s.makes.all fun p => !chkB s.kind p) = al at *; simp_all; done)
      | trace_state
local macro_rules | `(tactic| focus fail "zk") => `(tactic| with_reducible refine k_sound ?_ (And.intro (fun hq9 => ?_) (fun hq9 => ?_)))
def c_l_answer (K : PySem.W.Frag) : ASp := fun es M Q X => ∃ (s : SetR), ∃ (named : Bool), es = [.d (setD K s), .d (.bool named)] ∧ M = [] ∧ (okSt s) ∧ ((knownS s = true → Q (.d (.tuple [.str "told", .bool (soundS s)])) []) ∧ (knownS s = false → Q (.d (.tuple [.str "refused"])) []))
theorem k_l_answer {K : PySem.W.Frag} {s : SetR} {named : Bool} {Q : Ent → Ms → Prop} {X : Xa} (h1 : okSt s) (q_ : (knownS s = true → Q (.d (.tuple [.str "told", .bool (soundS s)])) []) ∧ (knownS s = false → Q (.d (.tuple [.str "refused"])) [])) : c_l_answer K [.d (setD K s), .d (.bool named)] [] Q X := ⟨s, named, rfl, rfl, h1, q_⟩
theorem sc_l_answer : FnScope ["_law_made", "_law_named", "e"] ["_law_made", "_law_named"] (defScope (topS 58)) := ⟨rfl, rfl, rfl, by decide +kernel, rfl, by decide +kernel, by decide +kernel⟩
theorem ca_l_answer (T : Top fa fn K mg) : Ca P w K mg base CX0 "_law_answer" (topS 58) 12 ["_law_made", "_law_named"] (c_l_answer K) := by
  have sc := sc_l_answer
  refine ca_of T 50 157 rfl rfl (fun _ _ _ _ _ _ us hl => by exact match us, hl with | [_, _], _ => rfl) fun fd F => fn_ok F sc (fun es M Q X h => ?_) fun cdv A outer s H E hr => ⟨_, (pss_cons (ks_tryA (i := 2) (K := K) (ht := (et_cons (T.fact 149 rfl) et_nil)) rfl rfl rfl sc.nd rfl rfl ⟨rfl, by decide, .inl (T.glo 140 rfl)⟩ takes_none5 (fun W pn xe tk pa => (pss_cons (ps_if (kt_tru (K := K) rfl (pv 1) (by intro _; rfl)) (pss_one (ps_ret (pe_tup (pa_cons pe_str (pa_cons (ke_caK0 (K := K) rfl (ca_sound (w := w) (base := base) T) ["setting"] [0] hr (by decide) rfl (passAt tk) (fun _ _ _ _ _ _ us ws h1 h2 => by exact match us, ws, h1, h2 with | [], [_], _, _ => rfl) (pk_cons (pv 0) pk_nil)) pa_nil))))) pss_nil)
      (pss_one (ps_ret (pe_tup (pa_cons pe_str (pa_cons (ke_ca (K := K) rfl (ca_sound (w := w) (base := base) T) hr (by decide) rfl (passAt tk) (pa_cons (pv 0) pa_nil)) pa_nil))))))) (fun a oe cls d pn hz hf => (pss_one (ps_if (PW.pt (pw_and (kt_tru (K := K) rfl (pe_callB (call_isX (K := K) rfl (it_cons (T.fact 150 rfl) (T.fact 151 rfl) it_nil) hz hf) (by rfl) (T.free 152 rfl) (by decide +kernel) (pa_cons (pv 2) (pa_cons (pe_glob (v := .ref (He.ga K "HopError")) rfl (T.glo 153 rfl) rfl) pa_nil))) (by intro _; rfl)) (pw_and1 (pt_not (kt_tru (K := K) rfl (ke_isXT (K := K) (pe_callB (call_isXT (K := K) rfl (ita_cons (ys := ["InvalidValue", "InvalidEvent"]) (T.fact 150 rfl) (T.fact 154 rfl) ita_nil) hz hf) (by rfl) (T.free 152 rfl) (by decide +kernel) (pa_cons (pv 2) (pa_cons (pe_tup (pa_cons (pe_glob (v := .ref (He.ga K "InvalidValue")) rfl (T.glo 156 rfl) rfl) (pa_cons (pe_glob (v := .ref (He.ga K "InvalidEvent")) rfl (T.glo 155 rfl) rfl) pa_nil))) pa_nil)))) (by intro _; rfl)))))) (pss_one (ps_ret (pe_tup (pa_cons pe_str pa_nil)))) pss_nil))))
      (pss_one (ps_ret (pe_tup (pa_cons pe_str pa_nil))))), fun es M Q X h => ?_⟩
  · obtain ⟨s, named, rfl, rfl, h1, k⟩ := h
    all_goals rfl
  · obtain ⟨s, named, rfl, rfl, h1, k⟩ := h
    all_goals try simp only [cx_K, cx_Kx]
    all_goals fail "zg"
    obtain ⟨k1, k2⟩ := k
    fail "z"
    all_goals first
      | exact h1
      | exact k1 (by assumption)
      | exact k2 (by assumption)
      | trace_state
local macro_rules | `(tactic| focus fail "zk") => `(tactic| with_reducible refine k_l_answer ?_ ?_)
def c_l_right (K : PySem.W.Frag) : ASp := fun es M Q X => ∃ (s : SetR), ∃ (named : Bool), ∃ (w : WoR), es = [.d (setD K s), .r 0, .d (.bool named)] ∧ M = [some (.dic (worldK w))] ∧ (okW w) ∧ (s = setW w) ∧ (Q (.d (.bool true)) [some (.dic (worldK w))])
theorem k_l_right {K : PySem.W.Frag} {s : SetR} {named : Bool} {w : WoR} {Q : Ent → Ms → Prop} {X : Xa} (h1 : okW w) (h2 : s = setW w) (q_ : Q (.d (.bool true)) [some (.dic (worldK w))]) : c_l_right K [.d (setD K s), .r 0, .d (.bool named)] [some (.dic (worldK w))] Q X := ⟨s, named, w, rfl, rfl, h1, h2, q_⟩
theorem sc_l_right : FnScope ["_law_made", "_law_world_here", "_law_named", "_law_answer_here"] ["_law_made", "_law_world_here", "_law_named"] (defScope (topS 59)) := ⟨rfl, rfl, rfl, by decide +kernel, rfl, by decide +kernel, by decide +kernel⟩
theorem ca_l_right (T : Top fa fn K mg) : Ca P w K mg base CX0 "_law_right" (topS 59) 13 ["_law_made", "_law_world_here", "_law_named"] (c_l_right K) := by
  have sc := sc_l_right
  refine ca_of T 51 159 rfl rfl (fun _ _ _ _ _ _ us hl => by exact match us, hl with | [_, _, _], _ => rfl) fun fd F => fn_ok F sc (fun es M Q X h => ?_) fun cdv A outer s H E hr => ⟨_, (pss_cons (ps_set (i := 3) sc.nd rfl (Or.inl rfl) (ke_ca (K := K) rfl (ca_l_answer (w := w) (base := base) T) hr (by decide) rfl passN (pa_cons (pv 0) (pa_cons (pv 2) pa_nil))))
      (pss_cons (ps_if (pt_not (kt_tru (K := K) rfl (ke_ca (K := K) rfl (ca_l_known (w := w) (base := base) T) hr (by decide) rfl passN (pa_cons (pv 1) pa_nil)) (by intro _; rfl))) (pss_one (ps_ret (pe_cmpR (kEq (K := K) rfl hr.units) (pv 3) (pe_tup (pa_cons pe_str pa_nil)) (nomark _)))) pss_nil)
      (pss_one (ps_ret (ke_and (K := K) rfl (pe_cmpR (kEq (K := K) rfl hr.units) (pe_ix (kIx (K := K) rfl) (pv 3) pe_int (fun _ _ => rfl)) pe_str (nomark _)) (ke_and (K := K) rfl (pe_callB (kIsi (K := K) rfl) (by rfl) (T.free 152 rfl) (by decide +kernel) (pa_cons (pe_ix (kIx (K := K) rfl) (pv 3) pe_int (fun _ _ => rfl)) (pa_cons (pe_bltn (v := .ty "bool") (by rfl) (T.free 158 rfl) PyProof.Rows.boot_bool rfl) pa_nil))) (pe_one (pe_cmpR (kEq (K := K) rfl hr.units) (pe_ix (kIx (K := K) rfl) (pv 3) pe_int (fun _ _ => rfl)) (ke_ca (K := K) rfl (ca_l_sound (w := w) (base := base) T) hr (by decide) rfl passN (pa_cons (pv 1) pa_nil)) (nomark _))))))))), fun es M Q X h => ?_⟩
  · obtain ⟨s, named, w, rfl, rfl, h1, h2, k⟩ := h
    all_goals rfl
  · obtain ⟨s, named, w, rfl, rfl, h1, h2, k⟩ := h
    all_goals try simp only [cx_K, cx_Kx]
    all_goals fail "zg"
    subst h2
    have hs := w_okSt h1
    have e1 := knownS_w w
    have e2 := sound_w h1
    have hok : okS (Str.ofString "told") = true := by decide +kernel
    fail "z"
    all_goals first
      | exact hs
      | (exfalso; simp_all; done)
      | (refine q_of k ?_ rfl; rw [e2]; simp; done)
      | (refine q_of k ?_ rfl; simp [PyData.eqvAll, PyData.eqv]; done)
      | trace_state
local macro_rules | `(tactic| focus fail "zk") => `(tactic| with_reducible refine k_l_right ?_ ?_ ?_)
def c_law (K : PySem.W.Frag) : ASp := fun es M Q X => ∃ (ns : List Int), es = [.w (ns.map PyData.int)] ∧ M = [] ∧ (ns.length ≤ 63) ∧ (Q (.d (.bool true)) [])
theorem k_law {K : PySem.W.Frag} {ns : List Int} {Q : Ent → Ms → Prop} {X : Xa} (h1 : ns.length ≤ 63) (q_ : Q (.d (.bool true)) []) : c_law K [.w (ns.map PyData.int)] [] Q X := ⟨ns, rfl, rfl, h1, q_⟩
theorem sc_law : FnScope ["_law_script", "_law_turn", "_law_purse_here", "_law_world_here", "_law_one", "_law_two", "_law_made"] ["_law_script"] (defScope (topS 60)) := ⟨rfl, rfl, rfl, by decide +kernel, rfl, by decide +kernel, by decide +kernel⟩
theorem ca_law (T : Top fa fn K mg) : Ca P w K mg base CX0 "law" (topS 60) 14 ["_law_script"] (c_law K) := by
  have sc := sc_law
  refine ca_of T 52 161 rfl rfl (fun _ _ _ _ _ _ us hl => by exact match us, hl with | [_], _ => rfl) fun fd F => fn_ok F sc (fun es M Q X h => ?_) fun cdv A outer s H E hr => ⟨_, (pss_cons (ps_for PassesOwn.never rfl (pi_range1 (by rfl) (T.free 66 rfl) (pa_cons (pe_callB (call_max2 rfl) (by rfl) (T.free 59 rfl) (by decide +kernel) (pa_cons pe_int (pa_cons (pe_callB (call_min2 rfl) (by rfl) (T.free 58 rfl) (by decide +kernel) (pa_cons (pe_callB (kLen (K := K) rfl) (by rfl) (T.free 25 rfl) (by decide +kernel) (pa_cons (pv 0) pa_nil)) (pa_cons pe_int pa_nil))) pa_nil))) pa_nil)) (pg_name (i := 1) sc.nd rfl (Or.inl rfl)) (pss_cons (ps_set (i := 2) sc.nd rfl (Or.inl rfl) (ke_ca (K := K) rfl (ca_l_purse (w := w) (base := base) T) hr (by decide) rfl passN (pa_cons (pv 0) (pa_cons (pv 1) pa_nil))))
      (pss_cons (ps_set (i := 3) sc.nd rfl (Or.inl rfl) (ke_ca (K := K) rfl (ca_l_world (w := w) (base := base) T) hr (by decide) rfl passN (pa_cons (pv 2) (pa_cons pe_int (pa_cons pe_int pa_nil)))))
      (pss_cons (ps_stop (ps_set (i := 4) sc.nd rfl (Or.inl rfl) (pe_op (kAdd (K := K) rfl) pe_int (ke_ca (K := K) rfl (ca_l_take (w := w) (base := base) T) hr (by decide) rfl passN (pa_cons (pv 2) (pa_cons (pe_dget (hu_of hr) (pv 3) pe_str (fun _ _ => rfl)) pa_nil))))))
      (pss_cons (ps_set (i := 5) sc.nd rfl (Or.inl rfl) (pe_op (kAdd (K := K) rfl) (pv 4) (ke_ca (K := K) rfl (ca_l_take (w := w) (base := base) T) hr (by decide) rfl passN (pa_cons (pv 2) (pa_cons (pe_op op_sub (pe_op (kAdd (K := K) rfl) (pe_dget (hu_of hr) (pv 3) pe_str (fun _ _ => rfl)) pe_int) (pv 4)) pa_nil)))))
      (pss_cons (ps_set (i := 6) sc.nd rfl (Or.inl rfl) (ke_ca (K := K) rfl (ca_l_setting (w := w) (base := base) T) hr (by decide) rfl passN (pa_cons (pv 3) pa_nil)))
      (pss_cons (ps_stop (ps_if (pt_not (kt_tru (K := K) rfl (ke_ca (K := K) rfl (ca_l_right (w := w) (base := base) T) hr (by decide) rfl passN (pa_cons (pv 6) (pa_cons (pv 3) (pa_cons pe_bl pa_nil)))) (by intro _; rfl))) (pss_one (ps_ret pe_bl)) pss_nil))
      (pss_cons (ps_if (pt_not (kt_tru (K := K) rfl (ke_ca (K := K) rfl (ca_l_right (w := w) (base := base) T) hr (by decide) rfl passN (pa_cons (ke_meA (n := 2) (ks := []) (as := [⟨He.ga K "Setting", c_Setting_part K, [], [], [0, 1, 2]⟩]) (K := K) rfl (pv 6) (ma_cons (mao_of (K := K) rfl (T.fact 26 rfl) (T.fact 160 rfl) (cm_Setting_part (w := w) (base := base) T) hr (by decide) (fun fd B => kb00 B 3 [] [0, 1, 2] (fun _ _ _ _ _ _ _ us ws h1 h2 => by exact match us, ws, h1, h2 with | [_, _, _], [], _, _ => (by kernel_rfl)))) ma_nil) passN (pa_cons (pv 4) (pa_cons (pv 5) pa_nil)) pk_nil) (pa_cons (ke_ca (K := K) rfl (ca_l_part (w := w) (base := base) T) hr (by decide) rfl passN (pa_cons (pv 3) (pa_cons (pv 4) (pa_cons (pv 5) pa_nil)))) (pa_cons pe_bl pa_nil)))) (by intro _; rfl))) (pss_one (ps_ret pe_bl)) pss_nil)
      (pss_cons (ps_if (pt_not (kt_tru (K := K) rfl (ke_ca (K := K) rfl (ca_l_right (w := w) (base := base) T) hr (by decide) rfl passN (pa_cons (ke_meA0 (ks := ["first", "last"]) (as := [⟨He.ga K "Setting", c_Setting_part K, [], [], [0, 1, 2]⟩]) (K := K) rfl (pv 6) (ma_cons (mao_of (K := K) rfl (T.fact 26 rfl) (T.fact 160 rfl) (cm_Setting_part (w := w) (base := base) T) hr (by decide) (fun fd B => kb00 B 1 ["first", "last"] [0, 1, 2] (fun _ _ _ _ _ _ _ us ws h1 h2 => by exact match us, ws, h1, h2 with | [_], [_, _], _, _ => (by kernel_rfl)))) ma_nil) passN (pk_cons (pv 4) (pk_cons (pe_dget (hu_of hr) (pv 3) pe_str (fun _ _ => rfl)) pk_nil))) (pa_cons (ke_ca (K := K) rfl (ca_l_part (w := w) (base := base) T) hr (by decide) rfl passN (pa_cons (pv 3) (pa_cons (pv 4) (pa_cons (pe_dget (hu_of hr) (pv 3) pe_str (fun _ _ => rfl)) pa_nil)))) (pa_cons pe_bl pa_nil)))) (by intro _; rfl))) (pss_one (ps_ret pe_bl)) pss_nil)
      (pss_one (ps_if (pt_not (kt_tru (K := K) rfl (ke_ca (K := K) rfl (ca_l_right (w := w) (base := base) T) hr (by decide) rfl passN (pa_cons (pv 6) (pa_cons (pv 3) (pa_cons pe_bl pa_nil)))) (by intro _; rfl))) (pss_one (ps_ret pe_bl)) pss_nil)))))))))))
      (pss_one (ps_ret pe_bl))), fun es M Q X h => ?_⟩
  · obtain ⟨ns, rfl, rfl, h1, k⟩ := h
    all_goals rfl
  · obtain ⟨ns, rfl, rfl, h1, k⟩ := h
    all_goals try simp only [cx_K, cx_Kx]
    all_goals fail "zg"
    fail "z"
    fail "zg"
    refine s_for0 ?_
    fail "z"
    refine ⟨fun its Γ0 M0 t Γ' M' => ∃ (v1 : Option Ent) (v2 : Option Ent) (v3 : Option Ent) (v4 : Option Ent) (v5 : Option Ent) (v6 : Option Ent), Γ' = upG Γ0 [(1, v1), (2, v2), (3, v3), (4, v4), (5, v5), (6, v6)] ∧ M' = M0, ⟨_, _, _, _, _, _, rfl, rfl⟩, (fun _ _ _ _ hj => by first | trivial | exact LD.d | exact LD.w | (obtain ⟨v1, v2, v3, v4, v5, v6, rfl, rfl⟩ := hj; exact LD.r rfl)), ?_, ?_⟩
    · rintro t e Γ' M' he ⟨v1, v2, v3, v4, v5, v6, rfl, rfl⟩
      fail "zg"
      obtain ⟨ht, rfl⟩ := rgE_get he
      refine g_name ?_
      refine s_forget ?_
      fail "z"
      rename_i a1 b1 hb1 hb2 w a2 n2 hn1 hn2 hw
      have wk_0 := wk_hops w
      have w1 := hw.n1
      have w2 := hw.n2
      have hs := w_okSt hw
      have hml : ((setW w).makes.length : Int) = w.hops := by
        have := hw.mc
        show ((w.makes.map mkOf).length : Int) = _
        rw [List.length_map]
        exact this
      refine s_stop ?_
      fail "z"
      rename_i d1 a3 n3 q1 q2 q3 q4 d2 a4 n4 q5 q6 q7 q8
      have hP1 := part_ok (i := 1 + d1) (j := 1 + d1 + d2) hw (by omega) (by omega) (by omega)
      have hE1 := part_w (i := 1 + d1) (j := 1 + d1 + d2) hw (by omega) (by omega) (by omega)
      have hP2 := part_ok (i := 1 + d1) (j := w.hops) hw (by omega) (by omega) (by omega)
      have hE2 := part_w (i := 1 + d1) (j := w.hops) hw (by omega) (by omega) (by omega)
      refine s_stop ?_
      fail "z"
      all_goals first
        | exact hE1
        | exact hE2
        | exact hP1
        | exact hP2
        | exact hs
        | exact hw
        | omega
        | exact ⟨_, _, _, _, _, _, rfl, rfl⟩
        | trace_state
    · rintro Γ' M' ⟨v1, v2, v3, v4, v5, v6, rfl, rfl⟩
      fail "zg"
      fail "z"
      all_goals exact k
local macro_rules | `(tactic| focus fail "zk") => `(tactic| with_reducible refine k_law ?_ ?_)
end
end K53
open PySem PySem.W PySem.Calls PyProof.Rows
theorem PySem.Challenge.cw_hopkeep_k53_soundness_holds : PySem.Challenge.rw_hopkeep_k53_soundness.Holds := by
  w_on; o_law
  refine HandSHeadRun.head_any (r := OpenLaw.row PySem.Challenge.rw_hopkeep_k53_soundness) (q := view (OpenLaw.row PySem.Challenge.rw_hopkeep_k53_soundness).prog [60]) (H := K53.zhk) (ob := K53.zob) (M := 12000) (loose := K53.zloose) (d := HandSHeadRun.topDef (OpenLaw.row PySem.Challenge.rw_hopkeep_k53_soundness).prog 60) (kwd := []) K53.zob_eq
    (by kernel_rfl) (fun s => by kernel_rfl) K53.zrun (by kernel_rfl) (by kernel_rfl) (by kernel_rfl) (by rfl) (by first | assumption | decide +kernel) (by decide +kernel) ⟨rfl, rfl, rfl, rfl, rfl, by decide +kernel⟩ ?hw ?hc
  case hw => w_witness2
  case hc =>
    refine L2.walk_ofE (l := PySem.Challenge.rw_hopkeep_k53_soundness) (n := 63) (k := 14) (x := "_law_script") (CX := L2.CX0) rfl (by decide) (by kernel_rfl) ⟨rfl, by decide, by decide⟩ ?F (fun _ _ _ _ z => z)
    intro w mg fa h Y G hmg0
    obtain ⟨K, KX, c⟩ := Y
    have hmg : mg ("law" : PySem.Str) = some (.ref fa) := by
      have e : (HandSHeadRun.topDef (OpenLaw.row PySem.Challenge.rw_hopkeep_k53_soundness).prog 60).name = ("law" : PySem.Str) := by kernel_rfl
      rw [← e]
      exact hmg0
    obtain ⟨fd, hb, hF⟩ := Z.law_fn (h := h) (P := PySem.Challenge.rw_hopkeep_k53_soundness.prog) (w := w) (k := 14) (c := K53.c_law K) (x := "_law_script") hmg ⟨h, KX, G, c⟩ (fun base T => K53.ca_law (base := base) T) (fun s v fd F => Z.law_binds F (fun _ _ _ _ _ _ us hl => by exact match us, hl with | [_], _ => rfl) s v)
    exact ⟨K, fd, _, KX, hb, fun H a ns hl _ hS => Z.law_in hS (fun _ => rfl) fun Qa X hq => ⟨ns, rfl, rfl, hl, hq _⟩, hF⟩
