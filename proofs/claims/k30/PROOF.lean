import PyProof.Rows.All
import Wide.All
import OpenK.AllK
import Wide.FinOn
import HandS.ForMost
import HandS.Flow
import HandS.Style
import HandS.IsInst
import HandS.Walk
import HandS.Wide
import HandS.Deep
import HandS.TupAny
import HandS.SortRule
import HandS.SortInts
import HandS.Small
import HandS.More
import HandS.Codes
import HandS.Zip
import KE.DataMinMax
import HandS.Conv
import KE.SortData
import KE.KDictWalk
import PySem.Challenge.RW_manyheads_k30_least_changes
set_option Elab.async false
set_option autoImplicit false
set_option linter.all false
set_option maxRecDepth 100000
set_option maxHeartbeats 2000000
/-! The data layer: immutable data as values (PyData), mutable objects by address. -/
namespace DL
open PySem PySem.Spec PyProof.Rows L2

/-- a slot: nothing known, data, a mutable object, the script -/
inductive Sl where
  | n | d (x : PyData) | m (a : Addr) | s (ns : List Int) | t (ss : List Sl)
/-- a mutable object -/
inductive MO where
  | lst (xs : List Sl) | dK (kvs : List (Key × Sl)) | dT (kvs : List (List Key × Sl))
  | lK (od : Obj) (kws : List (Key × V)) (kvs : List (Key × Sl)) | lT (od : Obj) (kws : List (List Key × V)) (kvs : List (List Key × Sl))
  | ins (C dx : Addr) (fs : List (Str × Sl)) | own (x : Addr)
abbrev MHp := Addr → Option MO
def mput (M : MHp) (a : Addr) (o : MO) : MHp := fun b => if b = a then some o else M b
def mdel (M : MHp) (a : Addr) : MHp := fun b => if b = a then none else M b
theorem mput_same {M : MHp} {a : Addr} {o : MO} : mput M a o a = some o := by unfold mput; rw [if_pos rfl]
theorem mput_ne {M : MHp} {a b : Addr} {o : MO} (h : b ≠ a) : mput M a o b = M b := by unfold mput; rw [if_neg h]
theorem mput_mput {M : MHp} {a : Addr} {o u : MO} : mput (mput M a o) a u = mput M a u := by
  funext b; unfold mput; split <;> rfl
theorem mdel_same {M : MHp} {a : Addr} : mdel M a a = none := by unfold mdel; rw [if_pos rfl]
theorem mdel_ne {M : MHp} {a b : Addr} (h : b ≠ a) : mdel M a b = M b := by unfold mdel; rw [if_neg h]
theorem mdel_mput {M : MHp} {a : Addr} {o : MO} (h : M a = none) : mdel (mput M a o) a = M := by
  funext b; unfold mdel mput
  by_cases e : b = a
  · subst e; rw [if_pos rfl, h]
  · rw [if_neg e, if_neg e]
theorem mdel_mput2 {M : MHp} {a b : Addr} {o u : MO} (h : M b = none) (hab : a ≠ b) : mdel (mput (mput M b o) a u) b = mput M a u := by
  funext c; unfold mdel mput
  by_cases e : c = b
  · subst e; rw [if_pos rfl, if_neg (Ne.symm hab), h]
  · rw [if_neg e, if_neg e]
theorem mput_comm {M : MHp} {a b : Addr} {o u : MO} (h : a ≠ b) : mput (mput M a o) b u = mput (mput M b u) a o := by
  funext c; unfold mput
  by_cases e : c = b
  · subst e; rw [if_pos rfl, if_neg (Ne.symm h), if_pos rfl]
  · rw [if_neg e, if_neg e]
theorem m_ne {M : MHp} {a b : Addr} {o : MO} (h : M a = some o) (h' : M b = none) : a ≠ b := by
  intro e; subst e; rw [h] at h'; cases h'

mutual
inductive Dq (F : Hp) : V → PyData → Prop
  | non : Dq F .non .none
  | bl (b : Bool) : Dq F (.bl b) (.bool b)
  | int (i : Int) : Dq F (.int i) (.int i)
  | str (x : Str) : Dq F (.str x) (.str x)
  | lst {a : Addr} {xs : List V} {ds : List PyData} : F a = some (.lst xs) → DqA F xs ds → Dq F (.ref a) (.list ds)
  | tup {a : Addr} {xs : List V} {ds : List PyData} : F a = some (.tup xs) → DqA F xs ds → Dq F (.ref a) (.tuple ds)
inductive DqA (F : Hp) : List V → List PyData → Prop
  | nil : DqA F [] []
  | cons {v : V} {vs : List V} {d : PyData} {ds : List PyData} : Dq F v d → DqA F vs ds → DqA F (v :: vs) (d :: ds)
end

mutual
theorem Dq.mono {F F' : Hp} (e : Same F F') : ∀ (d : PyData) (v : V), Dq F v d → Dq F' v d
  | .none, _, .non => .non
  | .bool _, _, .bl b => .bl b
  | .int _, _, .int i => .int i
  | .str _, _, .str i => .str i
  | .list ds, _, .lst h r => .lst (e _ _ h) (DqA.mono e ds _ r)
  | .tuple ds, _, .tup h r => .tup (e _ _ h) (DqA.mono e ds _ r)
theorem DqA.mono {F F' : Hp} (e : Same F F') : ∀ (ds : List PyData) (vs : List V), DqA F vs ds → DqA F' vs ds
  | [], _, .nil => .nil
  | d :: ds, _, .cons h r => .cons (Dq.mono e d _ h) (DqA.mono e ds _ r)
end
mutual
theorem Dq.dp {K : PySem.W.Frag} {F H : Hp} (e : Same F H) : ∀ (d : PyData) (v : V), Dq F v d → Dp K H v d
  | .none, _, .non => .non
  | .bool _, _, .bl b => .bl b
  | .int _, _, .int i => .int i
  | .str _, _, .str i => .str i
  | .list ds, _, .lst h r => .lst (SqL.of (e _ _ h)) (DqA.dp e ds _ r)
  | .tuple ds, _, .tup h r => .tup (SqT.of (e _ _ h)) (DqA.dp e ds _ r)
theorem DqA.dp {K : PySem.W.Frag} {F H : Hp} (e : Same F H) : ∀ (ds : List PyData) (vs : List V), DqA F vs ds → DpAll K H vs ds
  | [], _, .nil => .nil
  | d :: ds, _, .cons h r => .cons (Dq.dp e d _ h) (DqA.dp e ds _ r)
end
theorem DqA.length {F : Hp} : ∀ {vs : List V} {ds : List PyData}, DqA F vs ds → vs.length = ds.length
  | _, _, .nil => rfl
  | _, _, .cons _ r => by simp [DqA.length r]
theorem DqA.get {F : Hp} : ∀ {vs : List V} {ds : List PyData} {i : Nat} {d : PyData}, DqA F vs ds → ds[i]? = some d → ∃ v, vs[i]? = some v ∧ Dq F v d
  | _, _, _, _, .nil, e => by simp at e
  | _, _, 0, _, .cons h _, e => by simp at e; subst e; exact ⟨_, rfl, h⟩
  | _, _, i + 1, d, .cons _ r, e => by
    obtain ⟨v, h1, h2⟩ := DqA.get (i := i) (d := d) r (by simpa using e)
    exact ⟨v, by simpa using h1, h2⟩
theorem DqA.append {F : Hp} : ∀ {vs ws : List V} {ds es : List PyData}, DqA F vs ds → DqA F ws es → DqA F (vs ++ ws) (ds ++ es)
  | _, _, _, _, .nil, s => s
  | _, _, _, _, .cons h r, s => .cons h (DqA.append r s)
theorem DqA.take {F : Hp} : ∀ {vs : List V} {ds : List PyData} (n : Nat), DqA F vs ds → DqA F (vs.take n) (ds.take n)
  | _, _, 0, _ => .nil
  | _, _, _ + 1, .nil => .nil
  | _, _, n + 1, .cons h r => .cons h (DqA.take n r)
theorem DqA.drop {F : Hp} : ∀ {vs : List V} {ds : List PyData} (n : Nat), DqA F vs ds → DqA F (vs.drop n) (ds.drop n)
  | _, _, 0, r => r
  | _, _, _ + 1, .nil => .nil
  | _, _, n + 1, .cons _ r => DqA.drop n r
theorem DqA.snoc {F : Hp} {vs : List V} {ds : List PyData} {v : V} {d : PyData} (h : DqA F vs ds) (h1 : Dq F v d) : DqA F (vs ++ [v]) (ds ++ [d]) := h.append (.cons h1 .nil)
theorem DqA.reverse {F : Hp} : ∀ {vs : List V} {ds : List PyData}, DqA F vs ds → DqA F vs.reverse ds.reverse
  | _, _, .nil => .nil
  | _, _, .cons h r => by rw [List.reverse_cons, List.reverse_cons]; exact (DqA.reverse r).snoc h

theorem sq_same {K : PySem.W.Frag} {F F' : Hp} (e : Same F F') {a : Addr} {xs : List V} (q : SqL K F a xs) : SqL K F' a xs := by
  rcases q with (q | ⟨o, q⟩) | q
  · exact .inl (.inl (e _ _ q))
  · exact .inl (.inr ⟨o, e _ _ q⟩)
  · exact .inr q
mutual
/-- a value and a slot within a tuple -/
inductive TtR (K : PySem.W.Frag) (F : Hp) : V → Sl → Prop
  | n {v : V} : TtR K F v .n
  | d {v : V} {x : PyData} : Dq F v x → TtR K F v (.d x)
  | m {a : Addr} : TtR K F (.ref a) (.m a)
  | s {a : Addr} {ns : List Int} : SqL K F a (ns.map V.int) → TtR K F (.ref a) (.s ns)
  | t {a : Addr} {vs : List V} {ss : List Sl} : F a = some (.tup vs) → TtA K F vs ss → TtR K F (.ref a) (.t ss)
inductive TtA (K : PySem.W.Frag) (F : Hp) : List V → List Sl → Prop
  | nil : TtA K F [] []
  | cons {v : V} {vs : List V} {s : Sl} {ss : List Sl} : TtR K F v s → TtA K F vs ss → TtA K F (v :: vs) (s :: ss)
end
mutual
theorem TtR.mono {K : PySem.W.Frag} {F F' : Hp} (e : Same F F') : ∀ (s : Sl) (v : V), TtR K F v s → TtR K F' v s
  | .n, _, .n => .n
  | .d x, v, .d h => .d (Dq.mono e x v h)
  | .m _, _, .m => .m
  | .s _, _, .s h => .s (sq_same e h)
  | .t ss, _, .t h r => .t (e _ _ h) (TtA.mono e ss _ r)
theorem TtA.mono {K : PySem.W.Frag} {F F' : Hp} (e : Same F F') : ∀ (ss : List Sl) (vs : List V), TtA K F vs ss → TtA K F' vs ss
  | [], _, .nil => .nil
  | s :: ss, _, .cons h r => .cons (TtR.mono e s _ h) (TtA.mono e ss _ r)
end
/-- a value and a slot -/
def SlR (K : PySem.W.Frag) (F : Hp) (v : V) : Sl → Prop
  | .n => True
  | .d x => Dq F v x
  | .m a => v = .ref a
  | .s ns => ∃ a, v = .ref a ∧ SqL K F a (ns.map V.int)
  | .t ss => ∃ a vs, v = .ref a ∧ F a = some (.tup vs) ∧ TtA K F vs ss
def OR (K : PySem.W.Frag) (F : Hp) (o : Option V) (s : Sl) : Prop := match s with
  | .n => True
  | .d x => ∃ v, o = some v ∧ Dq F v x
  | .m a => o = some (.ref a)
  | .s ns => ∃ a, o = some (.ref a) ∧ SqL K F a (ns.map V.int)
  | .t ss => ∃ a vs, o = some (.ref a) ∧ F a = some (.tup vs) ∧ TtA K F vs ss
abbrev SlsR (K : PySem.W.Frag) (F : Hp) : List V → List Sl → Prop := Paired (SlR K F)
abbrev Env (K : PySem.W.Frag) (F : Hp) : List (Option V) → List Sl → Prop := Paired (OR K F)
theorem SlR.mono {K : PySem.W.Frag} {F F' : Hp} (e : Same F F') {v : V} : ∀ {s : Sl}, SlR K F v s → SlR K F' v s
  | .n, _ => trivial
  | .d x, h => Dq.mono e x v h
  | .m _, h => h
  | .s _, ⟨a, h, q⟩ => ⟨a, h, sq_same e q⟩
  | .t ss, ⟨a, vs, h, q, r⟩ => ⟨a, vs, h, e _ _ q, TtA.mono e ss vs r⟩
theorem OR.mono {K : PySem.W.Frag} {F F' : Hp} (e : Same F F') {v : Option V} : ∀ {s : Sl}, OR K F v s → OR K F' v s
  | .n, _ => trivial
  | .d x, ⟨v, h1, h2⟩ => ⟨v, h1, Dq.mono e x v h2⟩
  | .m _, h => h
  | .s _, ⟨a, h, q⟩ => ⟨a, h, sq_same e q⟩
  | .t ss, ⟨a, vs, h, q, r⟩ => ⟨a, vs, h, e _ _ q, TtA.mono e ss vs r⟩
theorem SlsR.mono {K : PySem.W.Frag} {F F' : Hp} (e : Same F F') {vs : List V} {ss : List Sl} (h : SlsR K F vs ss) : SlsR K F' vs ss := Paired.mapP h fun _ _ q => q.mono e
theorem Env.mono {K : PySem.W.Frag} {F F' : Hp} (e : Same F F') {vs : List (Option V)} {ss : List Sl} (h : Env K F vs ss) : Env K F' vs ss := Paired.mapP h fun _ _ q => q.mono e
theorem OR.some {K : PySem.W.Frag} {F : Hp} {v : V} : ∀ {s : Sl}, SlR K F v s → OR K F (.some v) s
  | .n, _ => trivial
  | .d _, h => ⟨v, rfl, h⟩
  | .m _, h => congrArg _ h
  | .s _, ⟨a, h, q⟩ => ⟨a, congrArg _ h, q⟩
  | .t _, ⟨a, vs, h, q⟩ => ⟨a, vs, congrArg _ h, q⟩
theorem TtR.slr {K : PySem.W.Frag} {F : Hp} {v : V} {s : Sl} (h : TtR K F v s) : SlR K F v s := by
  cases h with
  | n => trivial
  | d h => exact h
  | m => rfl
  | s h => exact ⟨_, rfl, h⟩
  | t h r => exact ⟨_, _, rfl, h, r⟩
theorem SlR.tt {K : PySem.W.Frag} {F : Hp} {v : V} : ∀ {s : Sl}, SlR K F v s → TtR K F v s
  | .n, _ => .n
  | .d _, h => .d h
  | .m a, h => by have h : v = .ref a := h; subst h; exact .m
  | .s _, ⟨_, h, q⟩ => by subst h; exact .s q
  | .t _, ⟨_, _, h, q, r⟩ => by subst h; exact .t q r
theorem tta_sls {K : PySem.W.Frag} {F : Hp} : ∀ {vs : List V} {ss : List Sl}, TtA K F vs ss → SlsR K F vs ss
  | _, _, .nil => .nil
  | _, _, .cons h r => .cons h.slr (tta_sls r)
theorem sls_tta {K : PySem.W.Frag} {F : Hp} : ∀ {vs : List V} {ss : List Sl}, SlsR K F vs ss → TtA K F vs ss
  | _, _, .nil => .nil
  | _, _, .cons h r => .cons h.tt (sls_tta r)
theorem Paired.get' {α β : Type} {R : α → β → Prop} : ∀ {xs : List α} {ys : List β} {i : Nat} {y : β}, Paired R xs ys → ys[i]? = some y → ∃ x, xs[i]? = some x ∧ R x y
  | _, _, _, _, .nil, e => by simp at e
  | _, _, 0, _, .cons h _, e => by simp at e; subst e; exact ⟨_, rfl, h⟩
  | _, _, i + 1, y, .cons _ r, e => by
    obtain ⟨v, h1, h2⟩ := Paired.get' (i := i) (y := y) r (by simpa using e)
    exact ⟨v, by simpa using h1, h2⟩
theorem Paired.set' {α β : Type} {R : α → β → Prop} {x : α} {y : β} (h : R x y) : ∀ {xs : List α} {ys : List β} (i : Nat), Paired R xs ys → Paired R (xs.set i x) (ys.set i y)
  | _, _, _, .nil => .nil
  | _, _, 0, .cons _ r => .cons h r
  | _, _, i + 1, .cons q r => .cons q (Paired.set' h i r)
theorem Paired.len' {α β : Type} {R : α → β → Prop} : ∀ {xs : List α} {ys : List β}, Paired R xs ys → xs.length = ys.length
  | _, _, .nil => rfl
  | _, _, .cons _ r => by simp [Paired.len' r]
theorem Paired.app' {α β : Type} {R : α → β → Prop} : ∀ {xs xs' : List α} {ys ys' : List β}, Paired R xs ys → Paired R xs' ys' → Paired R (xs ++ xs') (ys ++ ys')
  | _, _, _, _, .nil, s => s
  | _, _, _, _, .cons h r, s => .cons h (Paired.app' r s)
theorem Paired.take' {α β : Type} {R : α → β → Prop} : ∀ {xs : List α} {ys : List β} (n : Nat), Paired R xs ys → Paired R (xs.take n) (ys.take n)
  | _, _, 0, _ => .nil
  | _, _, _ + 1, .nil => .nil
  | _, _, n + 1, .cons h r => .cons h (Paired.take' n r)
theorem Paired.drop' {α β : Type} {R : α → β → Prop} : ∀ {xs : List α} {ys : List β} (n : Nat), Paired R xs ys → Paired R (xs.drop n) (ys.drop n)
  | _, _, 0, r => r
  | _, _, _ + 1, .nil => .nil
  | _, _, n + 1, .cons _ r => Paired.drop' n r
theorem Paired.rev' {α β : Type} {R : α → β → Prop} : ∀ {xs : List α} {ys : List β}, Paired R xs ys → Paired R xs.reverse ys.reverse
  | _, _, .nil => .nil
  | _, _, .cons h r => by rw [List.reverse_cons, List.reverse_cons]; exact Paired.app' (Paired.rev' r) (.cons h .nil)
/-- slots that are all data -/
theorem sls_data {K : PySem.W.Frag} {F : Hp} : ∀ {vs : List V} {ds : List PyData}, SlsR K F vs (ds.map Sl.d) → DqA F vs ds
  | _, [], .nil => .nil
  | _, _ :: _, .cons h r => .cons h (sls_data r)
theorem data_sls {K : PySem.W.Frag} {F : Hp} : ∀ {vs : List V} {ds : List PyData}, DqA F vs ds → SlsR K F vs (ds.map Sl.d)
  | _, _, .nil => .nil
  | _, _, .cons h r => .cons h (data_sls r)

def MOk (K : PySem.W.Frag) (F H : Hp) (a : Addr) : MO → Prop
  | .lst ss => ∃ vs, H a = some (.lst vs) ∧ SlsR K F vs ss
  | .dK kvs => ∃ kws, H a = some (.dK kws) ∧ Paired (fun (p : Key × V) (q : Key × Sl) => p.1 = q.1 ∧ SlR K F p.2 q.2) kws kvs
  | .dT kvs => ∃ kws, H a = some (.dT kws) ∧ Paired (fun (p : List Key × V) (q : List Key × Sl) => p.1 = q.1 ∧ SlR K F p.2 q.2) kws kvs
  | .lK od kws kvs => H a = some (.frz od (.dK kws)) ∧ Paired (fun (p : Key × V) (q : Key × Sl) => p.1 = q.1 ∧ SlR K F p.2 q.2) kws kvs
  | .lT od kws kvs => H a = some (.frz od (.dT kws)) ∧ Paired (fun (p : List Key × V) (q : List Key × Sl) => p.1 = q.1 ∧ SlR K F p.2 q.2) kws kvs
  | .ins C dx fs => ∃ gs, H a = some (.ins C dx gs) ∧ Paired (fun (p : Str × V) (q : Str × Sl) => p.1 = q.1 ∧ SlR K F p.2 q.2) gs fs
  | .own x => H a = some (.own x)
theorem MOk.stay {K : PySem.W.Frag} {F F' H H' : Hp} {a : Addr} (e : Same F F') (h : ∀ o, H a = some o → H' a = some o) : ∀ {o : MO}, MOk K F H a o → MOk K F' H' a o
  | .lst _, ⟨vs, q, r⟩ => ⟨vs, h _ q, r.mono e⟩
  | .dK _, ⟨vs, q, r⟩ => ⟨vs, h _ q, Paired.mapP r fun _ _ z => ⟨z.1, z.2.mono e⟩⟩
  | .dT _, ⟨vs, q, r⟩ => ⟨vs, h _ q, Paired.mapP r fun _ _ z => ⟨z.1, z.2.mono e⟩⟩
  | .lK _ _ _, ⟨q, r⟩ => ⟨h _ q, Paired.mapP r fun _ _ z => ⟨z.1, z.2.mono e⟩⟩
  | .lT _ _ _, ⟨q, r⟩ => ⟨h _ q, Paired.mapP r fun _ _ z => ⟨z.1, z.2.mono e⟩⟩
  | .ins _ _ _, ⟨vs, q, r⟩ => ⟨vs, h _ q, Paired.mapP r fun _ _ z => ⟨z.1, z.2.mono e⟩⟩
  | .own _, q => h _ q
/-- the heap: F the data, M the mutable objects -/
structure Hs (K : PySem.W.Frag) (F : Hp) (M : MHp) (H : Hp) : Prop where
  ex : Same F H
  ap : ∀ a o, M a = some o → F a = none
  ok : ∀ a o, M a = some o → MOk K F H a o
theorem same_new {H : Hp} {p : Addr} {o : HO} (h : H p = none) : Same H (upd H p o) := fun b x e => by
  rw [upd_ne (ne_of_none e h)]
  exact e
theorem Same.refl (H : Hp) : Same H H := fun _ _ h => h
section
variable {K : PySem.W.Frag} {F F' H H' : Hp} {M M' : MHp} {a p : Addr}
theorem Hs.in_H {o : MO} (h : Hs K F M H) (e : M a = some o) : ∃ u, H a = some u := by
  have z := h.ok _ _ e
  cases o with
  | lst ss => obtain ⟨vs, z, _⟩ := z; exact ⟨_, z⟩
  | lK _ _ _ => obtain ⟨q, _⟩ := h.ok _ _ e; exact ⟨_, q⟩
  | lT _ _ _ => obtain ⟨q, _⟩ := h.ok _ _ e; exact ⟨_, q⟩
  | dK ss => obtain ⟨vs, z, _⟩ := z; exact ⟨_, z⟩
  | dT ss => obtain ⟨vs, z, _⟩ := z; exact ⟨_, z⟩
  | ins _ _ ss => obtain ⟨vs, z, _⟩ := z; exact ⟨_, z⟩
  | own ss => exact ⟨_, z⟩
theorem Hs.freeF (h : Hs K F M H) (hp : H p = none) : F p = none := by
  cases q : F p with
  | none => rfl
  | some u => have := h.ex _ _ q; rw [hp] at this; cases this
/-- a new object of data -/
theorem Hs.newD {o : HO} (h : Hs K F M H) (hp : H p = none) : Same F (upd F p o) ∧ Hs K (upd F p o) M (upd H p o) := by
  have fp : F p = none := h.freeF hp
  have e1 : Same F (upd F p o) := same_new fp
  refine ⟨e1, fun b u q => ?_, fun b u q => ?_, fun b u q => ?_⟩
  · by_cases e : b = p
    · subst e; rw [upd_same] at q ⊢; exact q
    · rw [upd_ne e] at q ⊢; exact h.ex _ _ q
  · obtain ⟨z, hz⟩ := h.in_H q
    rw [upd_ne (ne_of_none hz hp)]; exact h.ap _ _ q
  · refine (h.ok _ _ q).stay e1 fun o' q' => ?_
    rw [upd_ne (ne_of_none q' hp)]; exact q'
/-- the heap grows, nothing new is told -/
theorem Hs.grow (h : Hs K F M H) (e : Same H H') : Hs K F M H' :=
  ⟨fun b u q => e _ _ (h.ex _ _ q), h.ap, fun b u q => (h.ok _ _ q).stay (Same.refl F) (e b)⟩
/-- an object is written, or a new one laid: a is free of data, and all but it stays -/
theorem Hs.write {o : MO} (h : Hs K F M H) (hF : F a = none) (k : ∀ b u, b ≠ a → H b = some u → H' b = some u) (new : MOk K F H' a o) : Hs K F (mput M a o) H' := by
  refine ⟨fun b u q => k b u (ne_of_none q hF) (h.ex _ _ q), fun b u q => ?_, fun b u q => ?_⟩
  · by_cases e : b = a
    · subst e; exact hF
    · rw [mput_ne e] at q; exact h.ap _ _ q
  · by_cases e : b = a
    · subst e; rw [mput_same] at q; cases q; exact new
    · rw [mput_ne e] at q
      exact (h.ok _ _ q).stay (Same.refl F) fun o' z => k b o' e z
theorem Hs.newM {o : MO} {u : HO} (h : Hs K F M H) (hp : H p = none) (new : MOk K F (upd H p u) p o) : Hs K F (mput M p o) (upd H p u) :=
  h.write (h.freeF hp) (fun b x hb e => by rw [upd_ne hb]; exact e) new
theorem Hs.set {o : MO} {u : HO} {o0 : MO} (h : Hs K F M H) (hm : M a = some o0) (new : MOk K F (upd H a u) a o) : Hs K F (mput M a o) (upd H a u) :=
  h.write (h.ap _ _ hm) (fun b x hb e => by rw [upd_ne hb]; exact e) new
/-- a mutable object is told no more -/
theorem Hs.forget (h : Hs K F M H) : Hs K F (mdel M a) H := by
  refine ⟨h.ex, fun b u q => ?_, fun b u q => ?_⟩
  · by_cases e : b = a
    · subst e; rw [mdel_same] at q; cases q
    · rw [mdel_ne e] at q; exact h.ap _ _ q
  · by_cases e : b = a
    · subst e; rw [mdel_same] at q; cases q
    · rw [mdel_ne e] at q; exact h.ok _ _ q
/-- a mutable object becomes data -/
theorem Hs.freeze {o : MO} {u : HO} (h : Hs K F M H) (hm : M a = some o) (hH : H a = some u) : Same F (upd F a u) ∧ Hs K (upd F a u) (mdel M a) H := by
  have fa := h.ap _ _ hm
  have e1 : Same F (upd F a u) := same_new fa
  refine ⟨e1, fun b x q => ?_, fun b x q => ?_, fun b x q => ?_⟩
  · by_cases e : b = a
    · subst e; rw [upd_same] at q; rw [← q]; exact hH
    · rw [upd_ne e] at q; exact h.ex _ _ q
  · by_cases e : b = a
    · subst e; rw [mdel_same] at q; cases q
    · rw [mdel_ne e] at q; rw [upd_ne e]; exact h.ap _ _ q
  · by_cases e : b = a
    · subst e; rw [mdel_same] at q; cases q
    · rw [mdel_ne e] at q; exact (h.ok _ _ q).stay e1 fun _ z => z
theorem Hs.freeM (h : Hs K F M H) (hp : H p = none) : M p = none := by
  cases q : M p with
  | none => rfl
  | some o => obtain ⟨u, z⟩ := h.in_H q; rw [hp] at z; cases z
theorem Hs.lst {ss : List Sl} (h : Hs K F M H) (e : M a = some (.lst ss)) : ∃ vs, H a = some (.lst vs) ∧ SlsR K F vs ss := h.ok _ _ e
/-- a tuple that is seen -/
theorem MOk.not_tup {o : MO} {vs : List V} (h : MOk K F H a o) (e : H a = some (.tup vs)) : False := by
  cases o with
  | lst _ => obtain ⟨_, q, _⟩ := h; rw [e] at q; cases q
  | dK _ => obtain ⟨_, q, _⟩ := h; rw [e] at q; cases q
  | dT _ => obtain ⟨_, q, _⟩ := h; rw [e] at q; cases q
  | lK _ _ _ => obtain ⟨q, _⟩ := h; rw [e] at q; cases q
  | lT _ _ _ => obtain ⟨q, _⟩ := h; rw [e] at q; cases q
  | ins _ _ _ => obtain ⟨_, q, _⟩ := h; rw [e] at q; cases q
  | own _ => have q : H a = some (.own _) := h; rw [e] at q; cases q
theorem Hs.learn {vs : List V} (h : Hs K F M H) (e : H a = some (.tup vs)) : ∃ F', Same F F' ∧ Hs K F' M H ∧ F' a = some (.tup vs) := by
  have e1 : Same F (upd F a (.tup vs)) := fun b o q => by
    by_cases hb : b = a
    · subst hb; rw [upd_same]; have := h.ex _ _ q; rw [e] at this; exact this
    · rw [upd_ne hb]; exact q
  refine ⟨_, e1, ⟨fun b o q => ?_, fun b o q => ?_, fun b o q => (h.ok b o q).stay e1 fun _ z => z⟩, upd_same⟩
  · by_cases hb : b = a
    · subst hb; rw [upd_same] at q; rw [e]; exact q
    · rw [upd_ne hb] at q; exact h.ex _ _ q
  · have hb : b ≠ a := fun z => by subst z; exact (h.ok _ _ q).not_tup e
    rw [upd_ne hb]; exact h.ap _ _ q
end
end DL
set_option Elab.async false
set_option autoImplicit false
set_option linter.all false
set_option maxRecDepth 100000
set_option maxHeartbeats 2000000
namespace DL
open PySem PySem.Spec PyProof.Rows L2

/-! ### transformers over slots and mutable objects; their lifts to readings -/
abbrev DP := MHp → Sl → Prop
abbrev DT := MHp → List Sl → DP → Prop
abbrev DTT := MHp → List Sl → (MHp → Bool → Prop) → Prop
abbrev DA := MHp → List Sl → (MHp → List Sl → Prop) → Prop
/-- what follows a value -/
def Fol (K : PySem.W.Frag) (F : Hp) (post : DP) (Q : VK) : Prop := ∀ M' s F' H' v, post M' s → Same F F' → Hs K F' M' H' → SlR K F' v s → Q v H'
def FolT (K : PySem.W.Frag) (F : Hp) (post : MHp → Bool → Prop) (Q : Bool → Hp → Prop) : Prop := ∀ M' b F' H', post M' b → Same F F' → Hs K F' M' H' → Q b H'
def FolA (K : PySem.W.Frag) (F : Hp) (post : MHp → List Sl → Prop) (Q : List V → Hp → Prop) : Prop := ∀ M' ss F' H' vs, post M' ss → Same F F' → Hs K F' M' H' → SlsR K F' vs ss → Q vs H'
theorem Fol.mono {K : PySem.W.Frag} {F F1 : Hp} {post : DP} {Q : VK} (h : Fol K F post Q) (e : Same F F1) : Fol K F1 post Q := fun M' s F' H' v p e' => h M' s F' H' v p (e.trans e')
theorem FolT.mono {K : PySem.W.Frag} {F F1 : Hp} {post : MHp → Bool → Prop} {Q : Bool → Hp → Prop} (h : FolT K F post Q) (e : Same F F1) : FolT K F1 post Q := fun M' s F' H' p e' => h M' s F' H' p (e.trans e')
def lift (K : PySem.W.Frag) (τ : DT) : TE := fun σ H Q => ∃ F M es post, Hs K F M H ∧ Env K F σ es ∧ τ M es post ∧ Fol K F post Q
def liftT (K : PySem.W.Frag) (τ : DTT) : TT := fun σ H Q => ∃ F M es post, Hs K F M H ∧ Env K F σ es ∧ τ M es post ∧ FolT K F post Q
def liftA (K : PySem.W.Frag) (τ : DA) : TA := fun σ H Q => ∃ F M es post, Hs K F M H ∧ Env K F σ es ∧ τ M es post ∧ FolA K F post Q
abbrev PD (X : Cx) (e : Expr) (τ : DT) : Prop := PE X e (lift X.K τ)
abbrev PDT (X : Cx) (e : Expr) (τ : DTT) : Prop := PT X e (liftT X.K τ)
abbrev PDW (X : Cx) (e : Expr) (τ : DTT) : Prop := PW X e (liftT X.K τ)
abbrev PDA (X : Cx) (es : List Expr) (τ : DA) : Prop := PA X es (liftA X.K τ)
theorem peI {X : Cx} {e : Expr} {t t' : TE} (h : PE X e t) (hi : ∀ σ H Q, t' σ H Q → t σ H Q) : PE X e t' := ⟨fun pins s σ H Q I hq => h.run pins s σ H Q I (hi σ H Q hq)⟩
theorem ptI {X : Cx} {e : Expr} {t t' : TT} (h : PT X e t) (hi : ∀ σ H Q, t' σ H Q → t σ H Q) : PT X e t' := ⟨fun pins s σ H Q I hq => h.run pins s σ H Q I (hi σ H Q hq)⟩
theorem pwI {X : Cx} {e : Expr} {t t' : TT} (h : PW X e t) (hi : ∀ σ H Q, t' σ H Q → t σ H Q) : PW X e t' := ⟨fun wh pins s σ H Q I hq => h.run wh pins s σ H Q I (hi σ H Q hq)⟩
theorem paI {X : Cx} {e : List Expr} {t t' : TA} (h : PA X e t) (hi : ∀ σ H Q, t' σ H Q → t σ H Q) : PA X e t' := ⟨fun pos pins s σ H Q I hq => h.run pos pins s σ H Q I (hi σ H Q hq)⟩
theorem psI {X : Cx} {st : Stmt} {t t' : L2.TS} (h : PS X st t) (hi : ∀ D σ H, t' D σ H → t D σ H) : PS X st t' := ⟨fun pins s σ H D I hq => h.run pins s σ H D I (hi D σ H hq)⟩
theorem pssI {X : Cx} {st : List Stmt} {t t' : L2.TS} (h : PSs X st t) (hi : ∀ D σ H, t' D σ H → t D σ H) : PSs X st t' := ⟨fun pins s σ H D I hq => h.run pins s σ H D I (hi D σ H hq)⟩

/-! ### names and constants -/
def dVs (o : Option Sl) (M : MHp) (post : DP) : Prop := match o with
  | some .n => False
  | some s => post M s
  | none => False
def dV (i : Nat) : DT := fun M es post => dVs es[i]? M post
/-- the name's list becomes data -/
def dVF (i : Nat) : DT := fun M es post => ∃ a ds, es[i]? = some (.m a) ∧ M a = some (.lst (ds.map Sl.d)) ∧ post (mdel M a) (.d (.list ds))
def dC (x : PyData) : DT := fun M _ post => post M (.d x)
section
variable {X : Cx} {e a b c : Expr} {τ τa τb τc : DT} {pos : Pos}
theorem or_var {K : PySem.W.Frag} {F : Hp} {σ : L2.St} {es : List Sl} {i : Nat} {s : Sl} (h : Env K F σ es) (e : es[i]? = some s) (hn : s ≠ .n) : ∃ v, σ[i]? = some (some v) ∧ SlR K F v s := by
  obtain ⟨o, h1, h2⟩ := Paired.get' h e
  cases s with
  | n => exact absurd rfl hn
  | d x => obtain ⟨v, rfl, h3⟩ := h2; exact ⟨v, h1, h3⟩
  | m a => have h2 : o = some (.ref a) := h2; subst h2; exact ⟨_, h1, rfl⟩
  | s ns => obtain ⟨a, rfl, h3⟩ := h2; exact ⟨_, h1, a, rfl, h3⟩
  | t ss => obtain ⟨a, vs, rfl, h3⟩ := h2; exact ⟨_, h1, a, vs, rfl, h3⟩
theorem pd_of_var {i : Nat} (h : PE X e (tVar i)) : PD X e (dV i) := peI h fun σ H Q hq => by
  obtain ⟨F, M, es, post, hs, he, ht, hf⟩ := hq
  unfold dV dVs at ht
  cases hc : es[i]? with
  | none => rw [hc] at ht; exact ht.elim
  | some s =>
    rw [hc] at ht
    cases s with
    | n => exact ht.elim
    | d x => obtain ⟨v, h1, h2⟩ := or_var he hc (by simp); exact ⟨v, h1, hf _ _ F H v ht (Same.refl F) hs h2⟩
    | m x => obtain ⟨v, h1, h2⟩ := or_var he hc (by simp); exact ⟨v, h1, hf _ _ F H v ht (Same.refl F) hs h2⟩
    | s x => obtain ⟨v, h1, h2⟩ := or_var he hc (by simp); exact ⟨v, h1, hf _ _ F H v ht (Same.refl F) hs h2⟩
    | t x => obtain ⟨v, h1, h2⟩ := or_var he hc (by simp); exact ⟨v, h1, hf _ _ F H v ht (Same.refl F) hs h2⟩
theorem pd_of_varF {i : Nat} (h : PE X e (tVar i)) : PD X e (dVF i) := peI h fun σ H Q hq => by
  obtain ⟨F, M, es, post, hs, he, ⟨a, ds, h1, h2, h3⟩, hf⟩ := hq
  obtain ⟨v, h4, h5⟩ := or_var he h1 (by simp)
  have h5 : v = .ref a := h5
  subst h5
  obtain ⟨vs, h6, h7⟩ := hs.lst h2
  obtain ⟨e1, hs'⟩ := hs.freeze h2 h6
  exact ⟨_, h4, hf _ _ _ H _ h3 e1 hs' (.lst upd_same ((sls_data h7).mono e1))⟩
theorem pd_const {v : V} {x : PyData} (h : PE X e (tC v)) (hv : Dq (fun _ => none) v x) : PD X e (dC x) := peI h fun σ H Q hq => by
  obtain ⟨F, M, es, post, hs, he, ht, hf⟩ := hq
  exact hf _ _ F H v ht (Same.refl F) hs (Dq.mono (fun _ _ z => by cases z) x v hv)
theorem pd_int {i j} : PD X (.Constant (.int i) j pos) (dC (.int i)) := pd_const pe_int (.int i)
theorem pd_str {i j} : PD X (.Constant (.str i) j pos) (dC (.str i)) := pd_const pe_str (.str i)
theorem pd_bl {i j} : PD X (.Constant (.bool i) j pos) (dC (.bool i)) := pd_const pe_bl (.bl i)
theorem pd_non {j} : PD X (.Constant .none j pos) (dC .none) := pd_const pe_non .non

/-! ### operators -/
abbrev DR2 := Sl → Sl → MHp → DP → Prop
def Snd (K : PySem.W.Frag) (r : R2) (ρ : DR2) : Prop := ∀ F M H v1 v2 s1 s2 post Q, Hs K F M H → SlR K F v1 s1 → SlR K F v2 s2 → ρ s1 s2 M post → Fol K F post Q → r v1 v2 H Q
def dOp (ρ : DR2) (τa τb : DT) : DT := fun M es post => τa M es fun M1 s1 => τb M1 es fun M2 s2 => ρ s1 s2 M2 post
theorem snd_op {K : PySem.W.Frag} {r : R2} {ρ : DR2} (h : Snd K r ρ) {σ : L2.St} {H : Hp} {Q : VK} (hq : lift K (dOp ρ τa τb) σ H Q) : tOp r (lift K τa) (lift K τb) σ H Q := by
  obtain ⟨F, M, es, post, hs, he, ht, hf⟩ := hq
  refine ⟨F, M, es, _, hs, he, ht, fun M1 s1 F1 H1 v1 p1 e1 hs1 r1 => ?_⟩
  refine ⟨F1, M1, es, _, hs1, he.mono e1, p1, fun M2 s2 F2 H2 v2 p2 e2 hs2 r2 => ?_⟩
  exact h F2 M2 H2 v1 v2 s1 s2 post Q hs2 (r1.mono e2) r2 p2 (hf.mono (e1.trans e2))
theorem pd_op {op : Operator} {r : R2} {ρ : DR2} (ho : OpR X (binaryOp op) r) (h : Snd X.K r ρ) (ha : PD X a τa) (hb : PD X b τb) : PD X (.BinOp a op b pos) (dOp ρ τa τb) := peI (pe_op ho ha hb) fun _ _ _ hq => snd_op h hq
theorem pd_cmp {op : CmpOp} {r : R2} {ρ : DR2} (ho : OpR X (compareOp op) r) (h : Snd X.K r ρ) (ha : PD X a τa) (hb : PD X b τb) (hm : behindInMarks op b = false) : PD X (.Compare a [op] [b] pos) (dOp ρ τa τb) := peI (pe_cmpR ho ha hb hm) fun _ _ _ hq => snd_op h hq
theorem pd_ix {r : R2} {ρ : DR2} (ho : IxR X r) (h : Snd X.K r ρ) (ha : PD X a τa) (hb : PD X b τb) (hs : PlainIx b) : PD X (.Subscript a b pos) (dOp ρ τa τb) := peI (pe_ix ho ha hb hs) fun _ _ _ hq => snd_op h hq
abbrev DR1 := Sl → MHp → DP → Prop
def Snd1 (K : PySem.W.Frag) (r : V → Hp → VK → Prop) (ρ : DR1) : Prop := ∀ F M H v s post Q, Hs K F M H → SlR K F v s → ρ s M post → Fol K F post Q → r v H Q
def dUn (ρ : DR1) (τa : DT) : DT := fun M es post => τa M es fun M1 s1 => ρ s1 M1 post
theorem pd_un {op : UnaryOp} {r : V → Hp → VK → Prop} {ρ : DR1} (ho : UnR X (unaryOp op) r) (h : Snd1 X.K r ρ) (ha : PD X a τa) : PD X (.UnaryOp op a pos) (dUn ρ τa) := peI (pe_un ho ha) fun σ H Q hq => by
  obtain ⟨F, M, es, post, hs, he, ht, hf⟩ := hq
  exact ⟨F, M, es, _, hs, he, ht, fun M1 s1 F1 H1 v1 p1 e1 hs1 r1 => h F1 M1 H1 v1 s1 post Q hs1 r1 p1 (hf.mono e1)⟩

/-- a list of data: as data, or a mutable one -/
def LstOf (M : MHp) (s : Sl) (ds : List PyData) : Prop := match s with
  | .d (.list es) => es = ds
  | .m a => M a = some (.lst (ds.map Sl.d))
  | _ => False
theorem LstOf.at {K : PySem.W.Frag} {F : Hp} {M : MHp} {H : Hp} {s : Sl} {v : V} {ds : List PyData} (h : LstOf M s ds) (hs : Hs K F M H) (r : SlR K F v s) : ∃ a vs, v = .ref a ∧ H a = some (.lst vs) ∧ DqA F vs ds := by
  cases s with
  | n => exact h.elim
  | s _ => exact h.elim
  | t _ => exact h.elim
  | m a =>
    obtain ⟨vs, h1, h2⟩ := hs.lst h
    exact ⟨a, vs, r, h1, sls_data h2⟩
  | d x =>
    cases x with
    | list es =>
      have h : es = ds := h
      subst h
      cases r with
      | lst h1 h2 => exact ⟨_, _, rfl, hs.ex _ _ h1, h2⟩
    | _ => exact h.elim
theorem dq_int {F : Hp} {v : V} {i : Int} (h : Dq F v (.int i)) : v = .int i := by cases h; rfl
theorem dq_str {F : Hp} {v : V} {i : Str} (h : Dq F v (.str i)) : v = .str i := by cases h; rfl
theorem dq_bl {F : Hp} {v : V} {i : Bool} (h : Dq F v (.bool i)) : v = .bl i := by cases h; rfl
theorem dq_non {F : Hp} {v : V} (h : Dq F v .none) : v = .non := by cases h; rfl
theorem dq_tup {F : Hp} {v : V} {ds : List PyData} (h : Dq F v (.tuple ds)) : ∃ a vs, v = .ref a ∧ F a = some (.tup vs) ∧ DqA F vs ds := by cases h with | tup h1 h2 => exact ⟨_, _, rfl, h1, h2⟩
theorem dq_lst {F : Hp} {v : V} {ds : List PyData} (h : Dq F v (.list ds)) : ∃ a vs, v = .ref a ∧ F a = some (.lst vs) ∧ DqA F vs ds := by cases h with | lst h1 h2 => exact ⟨_, _, rfl, h1, h2⟩
theorem Fol.dat {K : PySem.W.Frag} {F : Hp} {M : MHp} {H : Hp} {post : DP} {Q : VK} (hf : Fol K F post Q) (hs : Hs K F M H) {v : V} {x : PyData} (r : Dq F v x) (hp : post M (.d x)) : Q v H := hf _ _ F H v hp (Same.refl F) hs r
/-- a new list of data -/
theorem Fol.newL {K : PySem.W.Frag} {F : Hp} {M : MHp} {H : Hp} {post : DP} {Q : VK} (hf : Fol K F post Q) (hs : Hs K F M H) {vs : List V} {ds : List PyData} (r : DqA F vs ds) (hp : post M (.d (.list ds))) : ∀ p, H p = none → Q (.ref p) (upd H p (.lst vs)) := fun p np => by
  obtain ⟨e1, hs1⟩ := hs.newD (o := .lst vs) np
  exact hf _ _ _ _ _ hp e1 hs1 (.lst upd_same (r.mono e1))
theorem Fol.newT {K : PySem.W.Frag} {F : Hp} {M : MHp} {H : Hp} {post : DP} {Q : VK} (hf : Fol K F post Q) (hs : Hs K F M H) {vs : List V} {ds : List PyData} (r : DqA F vs ds) (hp : post M (.d (.tuple ds))) : ∀ p, H p = none → Q (.ref p) (upd H p (.tup vs)) := fun p np => by
  obtain ⟨e1, hs1⟩ := hs.newD (o := .tup vs) np
  exact hf _ _ _ _ _ hp e1 hs1 (.tup upd_same (r.mono e1))
theorem Fol.here {K : PySem.W.Frag} {F : Hp} {M : MHp} {H : Hp} {post : DP} {Q : VK} (hf : Fol K F post Q) (hs : Hs K F M H) {v : V} {s : Sl} (r : SlR K F v s) (hp : post M s) : Q v H := hf _ _ F H v hp (Same.refl F) hs r
theorem Fol.newML {K : PySem.W.Frag} {F : Hp} {M : MHp} {H : Hp} {post : DP} {Q : VK} (hf : Fol K F post Q) (hs : Hs K F M H) {vs : List V} {ss : List Sl} (r : SlsR K F vs ss) (hp : ∀ a, M a = none → post (mput M a (.lst ss)) (.m a)) : ∀ p, H p = none → Q (.ref p) (upd H p (.lst vs)) := fun p np =>
  hf _ _ F _ _ (hp p (hs.freeM np)) (Same.refl F) (hs.newM np ⟨vs, upd_same, r⟩) rfl

/-- ints: a condition, and the answer -/
def ρI (C : Int → Int → Prop) (g : Int → Int → PyData) : DR2 := fun s1 s2 M post => match s1, s2 with
  | .d (.int i), .d (.int j) => C i j ∧ post M (.d (g i j))
  | _, _ => False
def ρI0 (g : Int → Int → PyData) : DR2 := fun s1 s2 M post => match s1, s2 with
  | .d (.int i), .d (.int j) => post M (.d (g i j))
  | _, _ => False
theorem ρI_inv {C : Int → Int → Prop} {g : Int → Int → PyData} {s1 s2 : Sl} {M : MHp} {post : DP} (h : ρI C g s1 s2 M post) : ∃ i j, s1 = .d (.int i) ∧ s2 = .d (.int j) ∧ C i j ∧ post M (.d (g i j)) := by
  unfold ρI at h; split at h
  · exact ⟨_, _, rfl, rfl, h⟩
  · exact h.elim
theorem ρI0_inv {g : Int → Int → PyData} {s1 s2 : Sl} {M : MHp} {post : DP} (h : ρI0 g s1 s2 M post) : ∃ i j, s1 = .d (.int i) ∧ s2 = .d (.int j) ∧ post M (.d (g i j)) := by
  unfold ρI0 at h; split at h
  · exact ⟨_, _, rfl, rfl, h⟩
  · exact h.elim
theorem snd_I {K : PySem.W.Frag} {C : Int → Int → Prop} {g : Int → Int → V} {g' : Int → Int → PyData} (hg : ∀ F i j, Dq F (g i j) (g' i j)) : Snd K (rI C g) (ρI C g') := by
  intro F M H v1 v2 s1 s2 post Q hs r1 r2 h hf
  obtain ⟨i, j, rfl, rfl, hc, hp⟩ := ρI_inv h
  exact ⟨i, j, dq_int r1, dq_int r2, hc, hf.dat hs (hg F i j) hp⟩
theorem snd_I0 {K : PySem.W.Frag} {g : Int → Int → V} {g' : Int → Int → PyData} (hg : ∀ F i j, Dq F (g i j) (g' i j)) : Snd K (rI0 g) (ρI0 g') := by
  intro F M H v1 v2 s1 s2 post Q hs r1 r2 h hf
  obtain ⟨i, j, rfl, rfl, hp⟩ := ρI0_inv h
  exact ⟨i, j, dq_int r1, dq_int r2, hf.dat hs (hg F i j) hp⟩
abbrev ρSub : DR2 := ρI0 fun i j => .int (i - j)
abbrev ρMod : DR2 := ρI (fun _ j => 0 < j) fun i j => .int (i % j)
abbrev ρDiv : DR2 := ρI CDivW fun i j => .int (i / j)
abbrev ρPow : DR2 := ρI CPow fun i j => .int (i ^ j.toNat)
theorem pd_sub (ha : PD X a τa) (hb : PD X b τb) : PD X (.BinOp a .Sub b pos) (dOp ρSub τa τb) := pd_op op_sub (snd_I0 fun _ _ _ => .int _) ha hb
theorem pd_mod (ha : PD X a τa) (hb : PD X b τb) : PD X (.BinOp a .Mod b pos) (dOp ρMod τa τb) := pd_op op_mod (snd_I fun _ _ _ => .int _) ha hb
theorem pd_fdiv (ha : PD X a τa) (hb : PD X b τb) : PD X (.BinOp a .FloorDiv b pos) (dOp ρDiv τa τb) := pd_op op_fdivW (snd_I fun _ _ _ => .int _) ha hb
theorem pd_pow (ha : PD X a τa) (hb : PD X b τb) : PD X (.BinOp a .Pow b pos) (dOp ρPow τa τb) := pd_op op_pow (snd_I fun _ _ _ => .int _) ha hb
abbrev ρLt : DR2 := ρI0 fun i j => .bool (decide (i < j))
abbrev ρLe : DR2 := ρI0 fun i j => .bool (decide (i ≤ j))
abbrev ρGt : DR2 := ρI0 fun i j => .bool (decide (j < i))
abbrev ρGe : DR2 := ρI0 fun i j => .bool (decide (j ≤ i))
theorem pd_lt (ha : PD X a τa) (hb : PD X b τb) : PD X (.Compare a [.Lt] [b] pos) (dOp ρLt τa τb) := pd_cmp op_lt (snd_I0 fun _ _ _ => .bl _) ha hb (nomark _)
theorem pd_le (ha : PD X a τa) (hb : PD X b τb) : PD X (.Compare a [.LtE] [b] pos) (dOp ρLe τa τb) := pd_cmp op_le (snd_I0 fun _ _ _ => .bl _) ha hb (nomark _)
theorem pd_gt (ha : PD X a τa) (hb : PD X b τb) : PD X (.Compare a [.Gt] [b] pos) (dOp ρGt τa τb) := pd_cmp op_gt (snd_I0 fun _ _ _ => .bl _) ha hb (nomark _)
theorem pd_ge (ha : PD X a τa) (hb : PD X b τb) : PD X (.Compare a [.GtE] [b] pos) (dOp ρGe τa τb) := pd_cmp op_ge (snd_I0 fun _ _ _ => .bl _) ha hb (nomark _)

/-- +: ints, texts, tuples, lists -/
def ρAdd : DR2 := fun s1 s2 M post => match s1, s2 with
  | .d (.int i), .d (.int j) => post M (.d (.int (i + j)))
  | .d (.str x), .d (.str y) => x.length + y.length ≤ sizeLine ∧ post M (.d (.str (x ++ y)))
  | .d (.tuple xs), .d (.tuple ys) => xs.length + ys.length ≤ sizeLine ∧ post M (.d (.tuple (xs ++ ys)))
  | s1, s2 => ∃ xs ys, LstOf M s1 xs ∧ LstOf M s2 ys ∧ xs.length + ys.length ≤ sizeLine ∧ post M (.d (.list (xs ++ ys)))
def rAddA (K : PySem.W.Frag) : R2 := fun x y H Q => rI0 (fun i j => .int (i + j)) x y H Q ∨ ((∃ i j, x = .str i ∧ y = .str j ∧ i.length + j.length ≤ sizeLine ∧ Q (.str (i ++ j)) H) ∨ (rCatA K x y H Q ∨ rCat x y H Q))
theorem op_addA : OpR X (binaryOp .Add) (rAddA X.K) := OpR.or op_add (OpR.or op_add_str (OpR.or op_catA op_cat))
theorem snd_addA {K : PySem.W.Frag} : Snd K (rAddA K) ρAdd := by
  intro F M H v1 v2 s1 s2 post Q hs r1 r2 h hf
  unfold ρAdd at h
  split at h
  · exact .inl ⟨_, _, dq_int r1, dq_int r2, hf.dat hs (.int _) h⟩
  · exact .inr (.inl ⟨_, _, dq_str r1, dq_str r2, h.1, hf.dat hs (.str _) h.2⟩)
  · obtain ⟨hl, hp⟩ := h
    obtain ⟨p, vs, rfl, hp1, ra⟩ := dq_tup r1
    obtain ⟨q, ws, rfl, hq1, rb⟩ := dq_tup r2
    have l1 := ra.length
    have l2 := rb.length
    refine .inr (.inr (.inl ⟨p, q, vs, ws, rfl, rfl, SqT.of (hs.ex _ _ hp1), SqT.of (hs.ex _ _ hq1), by omega, fun z => ?_, fun z z2 => ?_, fun z z2 => hf.newT hs (ra.append rb) hp⟩))
    · subst z; cases ra; exact hf.dat hs (.tup hq1 rb) hp
    · subst z2; cases rb; rw [List.append_nil] at hp; exact hf.dat hs (.tup hp1 ra) hp
  · obtain ⟨xs, ys, h1, h2, hl, hp⟩ := h
    obtain ⟨p, vs, rfl, hp1, ra⟩ := h1.at hs r1
    obtain ⟨q, ws, rfl, hq1, rb⟩ := h2.at hs r2
    have l1 := ra.length
    have l2 := rb.length
    exact .inr (.inr (.inr ⟨p, q, vs, ws, rfl, rfl, hp1, hq1, by omega, hf.newL hs (ra.append rb) hp⟩))
theorem pd_add (ha : PD X a τa) (hb : PD X b τb) : PD X (.BinOp a .Add b pos) (dOp ρAdd τa τb) := pd_op op_addA snd_addA ha hb
/-- *: ints, a list times an int -/
def ρMul : DR2 := fun s1 s2 M post => match s1, s2 with
  | .d (.int i), .d (.int j) => CMul i j ∧ post M (.d (.int (i * j)))
  | s1, .d (.int k) => ∃ xs, LstOf M s1 xs ∧ -(2 ^ 63) ≤ k ∧ k < 2 ^ 63 ∧ xs.length * k.toNat ≤ sizeLine ∧ post M (.d (.list (List.replicate k.toNat xs).flatten))
  | _, _ => False
def rMulA : R2 := fun x y H Q => rI CMul (fun i j => .int (i * j)) x y H Q ∨ rRep x y H Q
theorem op_mulA : OpR X (binaryOp .Mult) rMulA := OpR.or op_mul op_rep
theorem DqA.rep {F : Hp} {vs : List V} {ds : List PyData} (h : DqA F vs ds) : ∀ k : Nat, DqA F (List.replicate k vs).flatten (List.replicate k ds).flatten
  | 0 => .nil
  | k + 1 => by rw [List.replicate_succ, List.replicate_succ, List.flatten_cons, List.flatten_cons]; exact h.append (DqA.rep h k)
theorem snd_mulA {K : PySem.W.Frag} : Snd K rMulA ρMul := by
  intro F M H v1 v2 s1 s2 post Q hs r1 r2 h hf
  unfold ρMul at h
  split at h
  · exact .inl ⟨_, _, dq_int r1, dq_int r2, h.1, hf.dat hs (.int _) h.2⟩
  · obtain ⟨xs, h1, h2, h3, h4, hp⟩ := h
    obtain ⟨p, vs, rfl, hp1, ra⟩ := h1.at hs r1
    have l1 := ra.length
    exact .inr ⟨p, _, vs, rfl, dq_int r2, hp1, h2, h3, by rw [l1]; exact h4, hf.newL hs (ra.rep _) hp⟩
  · exact h.elim
theorem pd_mul (ha : PD X a τa) (hb : PD X b τb) : PD X (.BinOp a .Mult b pos) (dOp ρMul τa τb) := pd_op op_mulA snd_mulA ha hb
def ρNeg : DR1 := fun s M post => match s with
  | .d (.int i) => post M (.d (.int (-i)))
  | _ => False
theorem pd_neg (ha : PD X a τa) : PD X (.UnaryOp .USub a pos) (dUn ρNeg τa) := pd_un un_neg (by
  intro F M H v s post Q hs r h hf
  unfold ρNeg at h
  split at h
  · exact ⟨_, dq_int r, hf.dat hs (.int _) h⟩
  · exact h.elim) ha

/-! ### == and != of data -/
/-- data, or a mutable list of data -/
def DatOf (M : MHp) (s : Sl) (x : PyData) : Prop := match s with
  | .d y => y = x
  | .m a => ∃ ds, x = .list ds ∧ M a = some (.lst (ds.map Sl.d))
  | .s ns => x = .list (ns.map PyData.int)
  | .n => False
  | .t _ => False
theorem dpa_ints {K : PySem.W.Frag} {H : Hp} : ∀ ns : List Int, DpAll K H (ns.map V.int) (ns.map PyData.int)
  | [] => .nil
  | _ :: r => .cons (.int _) (dpa_ints r)
theorem DatOf.at {K : PySem.W.Frag} {F : Hp} {M : MHp} {H : Hp} {s : Sl} {v : V} {x : PyData} (h : DatOf M s x) (hs : Hs K F M H) (r : SlR K F v s) : Dp K H v x := by
  cases s with
  | n => exact h.elim
  | t _ => exact h.elim
  | s ns => have h : x = .list (ns.map PyData.int) := h; subst h; obtain ⟨a, rfl, h1⟩ := r; exact .lst (sq_same hs.ex h1) (dpa_ints ns)
  | d y => have h : y = x := h; subst h; exact Dq.dp hs.ex y v r
  | m a =>
    obtain ⟨ds, rfl, h1⟩ := h
    obtain ⟨vs, h2, h3⟩ := hs.lst h1
    have r : v = .ref a := r
    subst r
    exact .lst (SqL.of h2) (DqA.dp hs.ex ds vs (sls_data h3))
def ρEq : DR2 := fun s1 s2 M post => ∃ x y, DatOf M s1 x ∧ DatOf M s2 y ∧ SeqAt.shaped x = true ∧ SeqAt.shaped y = true ∧ post M (.d (.bool (PyData.eqv x y)))
def ρNe : DR2 := fun s1 s2 M post => ∃ x y, DatOf M s1 x ∧ DatOf M s2 y ∧ SeqAt.shaped x = true ∧ SeqAt.shaped y = true ∧ post M (.d (.bool (!PyData.eqv x y)))
theorem pd_eq (hu : X.A.units + 64 < cLine) (ha : PD X a τa) (hb : PD X b τb) : PD X (.Compare a [.Eq] [b] pos) (dOp ρEq τa τb) := pd_cmp (op_eqD hu) (by
  intro F M H v1 v2 s1 s2 post Q hs r1 r2 h hf
  obtain ⟨x, y, h1, h2, h3, h4, hp⟩ := h
  exact ⟨x, y, h1.at hs r1, h2.at hs r2, h3, h4, hf.dat hs (.bl _) hp⟩) ha hb (nomark _)
theorem pd_ne (hu : X.A.units + 64 < cLine) (ha : PD X a τa) (hb : PD X b τb) : PD X (.Compare a [.NotEq] [b] pos) (dOp ρNe τa τb) := pd_cmp (op_neD hu) (by
  intro F M H v1 v2 s1 s2 post Q hs r1 r2 h hf
  obtain ⟨x, y, h1, h2, h3, h4, hp⟩ := h
  exact ⟨x, y, h1.at hs r1, h2.at hs r2, h3, h4, hf.dat hs (.bl _) hp⟩) ha hb (nomark _)

/-! ### items -/
theorem atI_map {α β : Type} {R : α → β → Prop} {xs : List α} {ys : List β} (h : Paired R xs ys) {i : Int} {y : β} (e : atI ys i = some y) : ∃ x, atI xs i = some x ∧ R x y := by
  unfold atI at e ⊢
  rw [Paired.len' h]
  cases q : ixN ys.length i with
  | none => rw [q] at e; cases e
  | some j =>
    rw [q] at e
    obtain ⟨x, h1, h2⟩ := Paired.get' (i := j) h e
    exact ⟨x, h1, h2⟩
theorem atI_dq {F : Hp} {vs : List V} {ds : List PyData} (h : DqA F vs ds) {i : Int} {d : PyData} (e : atI ds i = some d) : ∃ v, atI vs i = some v ∧ Dq F v d := by
  unfold atI at e ⊢
  rw [h.length]
  cases q : ixN ds.length i with
  | none => rw [q] at e; cases e
  | some j => rw [q] at e; exact h.get e
/-- x[i]: of a list, a tuple, a text, a dict by int or text -/
def ρIx : DR2 := fun s1 s2 M post => match s1, s2 with
  | .d (.list ds), .d (.int i) => ∃ d, atI ds i = some d ∧ post M (.d d)
  | .d (.tuple ds), .d (.int i) => ∃ d, atI ds i = some d ∧ post M (.d d)
  | .d (.str z), .d (.int i) => z.length ≤ sizeLine ∧ ∃ c, atI z.cps.toList i = some c ∧ post M (.d (.str ⟨#[c]⟩))
  | .m a, .d (.int i) => match M a with
    | some (.lst ss) => ∃ s, atI ss i = some s ∧ post M s
    | _ => False
  | .s ns, .d (.int i) => ∃ k, atI ns i = some k ∧ post M (.d (.int k))
  | .t ss, .d (.int i) => ∃ s, atI ss i = some s ∧ post M s
  | _, _ => False
theorem atI_mapI {ns : List Int} {i k : Int} (h : atI ns i = some k) : atI (ns.map V.int) i = some (.int k) := by
  unfold atI at h ⊢
  rw [List.length_map]
  cases q : ixN ns.length i with
  | none => rw [q] at h; cases h
  | some j =>
    rw [q] at h
    have h : ns[j]? = some k := h
    show (ns.map V.int)[j]? = some (.int k)
    rw [List.getElem?_map, h]
    rfl
theorem snd_ix {K : PySem.W.Frag} : Snd K (rIx K) ρIx := by
  intro F M H v1 v2 s1 s2 post Q hs r1 r2 h hf
  unfold ρIx at h
  split at h
  · obtain ⟨d, h1, hp⟩ := h
    obtain ⟨p, vs, rfl, hp1, ra⟩ := dq_lst r1
    obtain ⟨v, h2, h3⟩ := atI_dq ra h1
    exact .inl ⟨p, vs, _, v, rfl, dq_int r2, SqL.of (hs.ex _ _ hp1), h2, hf.dat hs h3 hp⟩
  · obtain ⟨d, h1, hp⟩ := h
    obtain ⟨p, vs, rfl, hp1, ra⟩ := dq_tup r1
    obtain ⟨v, h2, h3⟩ := atI_dq ra h1
    exact .inr (.inl ⟨p, vs, _, v, rfl, dq_int r2, SqT.of (hs.ex _ _ hp1), h2, hf.dat hs h3 hp⟩)
  · obtain ⟨hl, c, h1, hp⟩ := h
    exact .inr (.inr ⟨_, _, c, dq_str r1, dq_int r2, hl, h1, hf.dat hs (.str _) hp⟩)
  · rename_i a i
    have r1 : v1 = .ref a := r1
    split at h
    · rename_i ss hM
      obtain ⟨s, h1, hp⟩ := h
      obtain ⟨vs, h2, h3⟩ := hs.lst hM
      obtain ⟨v, h4, h5⟩ := atI_map h3 h1
      exact .inl ⟨a, vs, _, v, r1, dq_int r2, SqL.of h2, h4, hf.here hs h5 hp⟩
    · exact h.elim
  · obtain ⟨k, h1, hp⟩ := h
    obtain ⟨a, r1, h2⟩ := r1
    exact .inl ⟨a, _, _, .int k, r1, dq_int r2, sq_same hs.ex h2, atI_mapI h1, hf.dat hs (.int k) hp⟩
  · obtain ⟨s, h1, hp⟩ := h
    obtain ⟨a, vs, r1, h2, h3⟩ := r1
    obtain ⟨v, h4, h5⟩ := atI_map (tta_sls h3) h1
    exact .inr (.inl ⟨a, vs, _, v, r1, dq_int r2, SqT.of (hs.ex _ _ h2), h4, hf.here hs h5 hp⟩)
  · exact h.elim
theorem pd_item (ha : PD X a τa) (hb : PD X b τb) (hs : PlainIx b) : PD X (.Subscript a b pos) (dOp ρIx τa τb) := pd_ix ix_seq snd_ix ha hb hs
end
end DL
set_option Elab.async false
set_option autoImplicit false
set_option linter.all false
set_option maxRecDepth 100000
set_option maxHeartbeats 2000000
namespace DL
open PySem PySem.Spec PyProof.Rows L2

section
variable {X : Cx} {e a b c : Expr} {τ τa τb τc : DT} {θ θa θb : DTT} {pos : Pos}
/-! ### tests -/
/-- truth: of bools, ints, texts, lists of data -/
def ρTru (s : Sl) (M : MHp) (post : MHp → Bool → Prop) : Prop := match s with
  | .d (.bool b) => post M b
  | .d .none => post M false
  | .d (.int i) => post M (i != 0)
  | .d (.str z) => z.length ≤ sizeLine ∧ post M ((z.length : Int) != 0)
  | .d (.list ds) => post M (!ds.isEmpty)
  | .d (.tuple ds) => post M (!ds.isEmpty)
  | .m a => ∃ ss, M a = some (.lst ss) ∧ post M (!ss.isEmpty)
  | .t ss => post M (!ss.isEmpty)
  | _ => False
def dTru (τ : DT) : DTT := fun M es post => τ M es fun M1 s => ρTru s M1 post
theorem emp_dq {F : Hp} {vs : List V} {ds : List PyData} (h : DqA F vs ds) : (!ds.isEmpty) = !vs.isEmpty := by cases h <;> rfl
theorem emp_p {α β : Type} {R : α → β → Prop} {vs : List α} {ds : List β} (h : Paired R vs ds) : (!ds.isEmpty) = !vs.isEmpty := by cases h <;> rfl
theorem pdt_truth (ha : PD X a τ) (he : ∀ whole, isTrue a X.env whole = (do let v ← whole; standAt a.pos; holding [v] (truthy v))) : PDT X a (dTru τ) := ptI (pt_truth ha he) fun σ H Q hq => by
  obtain ⟨F, M, es, post, hs, he, ht, hf⟩ := hq
  refine ⟨F, M, es, _, hs, he, ht, fun M1 s F1 H1 v p1 e1 hs1 r1 => ?_⟩
  have fin : ∀ k, post M1 k → Q k H1 := fun k hk => hf M1 k F1 H1 hk e1 hs1
  unfold ρTru at p1
  split at p1
  · rw [dq_bl r1]; exact ⟨_, rfl, fin _ p1⟩
  · rw [dq_non r1]; exact ⟨_, rfl, fin _ p1⟩
  · rw [dq_int r1]; exact ⟨_, rfl, fin _ p1⟩
  · rw [dq_str r1]; exact ⟨_, ⟨p1.1, rfl⟩, fin _ p1.2⟩
  · obtain ⟨p, vs, rfl, h1, h2⟩ := dq_lst r1; exact ⟨_, .inl ⟨vs, SqL.of (hs1.ex _ _ h1), emp_dq h2⟩, fin _ p1⟩
  · obtain ⟨p, vs, rfl, h1, h2⟩ := dq_tup r1; exact ⟨_, .inr (.inl ⟨vs, SqT.of (hs1.ex _ _ h1), emp_dq h2⟩), fin _ p1⟩
  · obtain ⟨ss, hM, p1⟩ := p1
    obtain ⟨vs, h1, h2⟩ := hs1.lst hM
    rw [show v = .ref _ from r1]; exact ⟨_, .inl ⟨vs, SqL.of h1, emp_p h2⟩, fin _ p1⟩
  · obtain ⟨a, vs, rfl, h1, h2⟩ := r1
    exact ⟨_, .inr (.inl ⟨vs, SqT.of (hs1.ex _ _ h1), emp_p (tta_sls h2)⟩), fin _ p1⟩
  · exact p1.elim
/-- a comparison as a test -/
theorem pdt_cmp {op : CmpOp} {r : R2} {ρ : DR2} (ho : OpR X (compareOp op) r) (h : Snd X.K r ρ) (ha : PD X a τa) (hb : PD X b τb) (hm : behindInMarks op b = false) : PDT X (.Compare a [op] [b] pos) (fun M es post => dOp ρ τa τb M es fun M1 s => ∃ k, s = .d (.bool k) ∧ post M1 k) := ptI (pt_cmpR ho ha hb hm) fun σ H Q hq => by
  obtain ⟨F, M, es, post, hs, he, ht, hf⟩ := hq
  exact snd_op h (Q := fun x H' => ∃ k, x = .bl k ∧ Q k H') ⟨F, M, es, _, hs, he, ht, fun M1 s F1 H1 v p1 e1 hs1 r1 => by
    obtain ⟨k, rfl, hp⟩ := p1
    exact ⟨k, dq_bl r1, hf M1 k F1 H1 hp e1 hs1⟩⟩
def dB (τ : DT) : DTT := fun M es post => τ M es fun M1 s => ∃ k, s = .d (.bool k) ∧ post M1 k
theorem pdt_of_cmp {op : CmpOp} {e1 e2 : Expr} {τ : DT} (h : PT X (.Compare e1 [op] [e2] pos) (liftT X.K (dB τ))) : PDT X (.Compare e1 [op] [e2] pos) (dB τ) := h
theorem pdt_lt (ha : PD X a τa) (hb : PD X b τb) : PDT X (.Compare a [.Lt] [b] pos) (dB (dOp ρLt τa τb)) := pdt_cmp op_lt (snd_I0 fun _ _ _ => .bl _) ha hb (nomark _)
theorem pdt_le (ha : PD X a τa) (hb : PD X b τb) : PDT X (.Compare a [.LtE] [b] pos) (dB (dOp ρLe τa τb)) := pdt_cmp op_le (snd_I0 fun _ _ _ => .bl _) ha hb (nomark _)
theorem pdt_gt (ha : PD X a τa) (hb : PD X b τb) : PDT X (.Compare a [.Gt] [b] pos) (dB (dOp ρGt τa τb)) := pdt_cmp op_gt (snd_I0 fun _ _ _ => .bl _) ha hb (nomark _)
theorem pdt_ge (ha : PD X a τa) (hb : PD X b τb) : PDT X (.Compare a [.GtE] [b] pos) (dB (dOp ρGe τa τb)) := pdt_cmp op_ge (snd_I0 fun _ _ _ => .bl _) ha hb (nomark _)
theorem snd_eq {K : PySem.W.Frag} : Snd K (rEqD K) ρEq := by
  intro F M H v1 v2 s1 s2 post Q hs r1 r2 h hf
  obtain ⟨x, y, h1, h2, h3, h4, hp⟩ := h
  exact ⟨x, y, h1.at hs r1, h2.at hs r2, h3, h4, hf.dat hs (.bl _) hp⟩
theorem snd_ne {K : PySem.W.Frag} : Snd K (rNeD K) ρNe := by
  intro F M H v1 v2 s1 s2 post Q hs r1 r2 h hf
  obtain ⟨x, y, h1, h2, h3, h4, hp⟩ := h
  exact ⟨x, y, h1.at hs r1, h2.at hs r2, h3, h4, hf.dat hs (.bl _) hp⟩
theorem pdt_eq (hu : X.A.units + 64 < cLine) (ha : PD X a τa) (hb : PD X b τb) : PDT X (.Compare a [.Eq] [b] pos) (dB (dOp ρEq τa τb)) := pdt_cmp (op_eqD hu) snd_eq ha hb (nomark _)
theorem pdt_ne (hu : X.A.units + 64 < cLine) (ha : PD X a τa) (hb : PD X b τb) : PDT X (.Compare a [.NotEq] [b] pos) (dB (dOp ρNe τa τb)) := pdt_cmp (op_neD hu) snd_ne ha hb (nomark _)
/-- and, or, not as tests -/
def dAnd (θ υ : DTT) : DTT := fun M es post => θ M es fun M1 b => if b = true then υ M1 es post else post M1 false
def dOr (θ υ : DTT) : DTT := fun M es post => θ M es fun M1 b => if b = true then post M1 true else υ M1 es post
def dNot (θ : DTT) : DTT := fun M es post => θ M es fun M1 b => post M1 (!b)
theorem pdw_and1 {a : Expr} (ha : PDT X a θ) : PDW X (.BoolOp .And [a] pos) θ := pw_and1 ha
theorem pdw_or1 {a : Expr} (ha : PDT X a θ) : PDW X (.BoolOp .Or [a] pos) θ := pw_or1 ha
theorem pdw_and {a b : Expr} {rest : List Expr} (ha : PDT X a θa) (hb : PDW X (.BoolOp .And (b :: rest) pos) θb) : PDW X (.BoolOp .And (a :: b :: rest) pos) (dAnd θa θb) := pwI (pw_and ha hb) fun σ H Q hq => by
  obtain ⟨F, M, es, post, hs, he, ht, hf⟩ := hq
  refine ⟨F, M, es, _, hs, he, ht, fun M1 k F1 H1 p1 e1 hs1 => ?_⟩
  cases k with
  | true => rw [if_pos rfl] at p1; rw [if_pos rfl]; exact ⟨F1, M1, es, post, hs1, he.mono e1, p1, hf.mono e1⟩
  | false => rw [if_neg Bool.false_ne_true] at p1; rw [if_neg Bool.false_ne_true]; exact hf _ _ F1 H1 p1 e1 hs1
theorem pdw_or {a b : Expr} {rest : List Expr} (ha : PDT X a θa) (hb : PDW X (.BoolOp .Or (b :: rest) pos) θb) : PDW X (.BoolOp .Or (a :: b :: rest) pos) (dOr θa θb) := pwI (pw_or ha hb) fun σ H Q hq => by
  obtain ⟨F, M, es, post, hs, he, ht, hf⟩ := hq
  refine ⟨F, M, es, _, hs, he, ht, fun M1 k F1 H1 p1 e1 hs1 => ?_⟩
  cases k with
  | false => rw [if_neg Bool.false_ne_true] at p1; rw [if_neg Bool.false_ne_true]; exact ⟨F1, M1, es, post, hs1, he.mono e1, p1, hf.mono e1⟩
  | true => rw [if_pos rfl] at p1; rw [if_pos rfl]; exact hf _ _ F1 H1 p1 e1 hs1
theorem pdt_not (ha : PDT X a θ) : PDT X (.UnaryOp .Not a pos) (dNot θ) := ptI (pt_not ha) fun σ H Q hq => by
  obtain ⟨F, M, es, post, hs, he, ht, hf⟩ := hq
  exact ⟨F, M, es, _, hs, he, ht, fun M1 k F1 H1 p1 e1 hs1 => hf _ _ F1 H1 p1 e1 hs1⟩
/-- and, or, not as values of bools -/
def dAndV (τa τb : DT) : DT := fun M es post => τa M es fun M1 s => ∃ k, s = .d (.bool k) ∧ if k = true then τb M1 es post else post M1 (.d (.bool false))
def dOrV (τa τb : DT) : DT := fun M es post => τa M es fun M1 s => ∃ k, s = .d (.bool k) ∧ if k = true then post M1 (.d (.bool true)) else τb M1 es post
def dNotV (τa : DT) : DT := fun M es post => τa M es fun M1 s => ∃ k, s = .d (.bool k) ∧ post M1 (.d (.bool (!k)))
theorem pd_one {op} (h : PD X a τ) : PD X (.BoolOp op [a] pos) τ := pe_one h
theorem pd_and {a b : Expr} {rest : List Expr} (ha : PD X a τa) (hb : PD X (.BoolOp .And (b :: rest) pos) τb) : PD X (.BoolOp .And (a :: b :: rest) pos) (dAndV τa τb) := peI (pe_and ha hb) fun σ H Q hq => by
  obtain ⟨F, M, es, post, hs, he, ht, hf⟩ := hq
  refine ⟨F, M, es, _, hs, he, ht, fun M1 s F1 H1 v p1 e1 hs1 r1 => ?_⟩
  obtain ⟨k, rfl, p1⟩ := p1
  refine ⟨k, dq_bl r1, ?_⟩
  cases k with
  | true => rw [if_pos rfl] at p1; rw [if_pos rfl]; exact ⟨F1, M1, es, post, hs1, he.mono e1, p1, hf.mono e1⟩
  | false => rw [if_neg Bool.false_ne_true] at p1; rw [if_neg Bool.false_ne_true]; exact (hf.mono e1).dat hs1 (.bl _) p1
theorem pd_or {a b : Expr} {rest : List Expr} (ha : PD X a τa) (hb : PD X (.BoolOp .Or (b :: rest) pos) τb) : PD X (.BoolOp .Or (a :: b :: rest) pos) (dOrV τa τb) := peI (pe_or ha hb) fun σ H Q hq => by
  obtain ⟨F, M, es, post, hs, he, ht, hf⟩ := hq
  refine ⟨F, M, es, _, hs, he, ht, fun M1 s F1 H1 v p1 e1 hs1 r1 => ?_⟩
  obtain ⟨k, rfl, p1⟩ := p1
  refine ⟨k, dq_bl r1, ?_⟩
  cases k with
  | false => rw [if_neg Bool.false_ne_true] at p1; rw [if_neg Bool.false_ne_true]; exact ⟨F1, M1, es, post, hs1, he.mono e1, p1, hf.mono e1⟩
  | true => rw [if_pos rfl] at p1; rw [if_pos rfl]; exact (hf.mono e1).dat hs1 (.bl _) p1
theorem pd_not (ha : PD X a τa) : PD X (.UnaryOp .Not a pos) (dNotV τa) := peI (pe_not ha) fun σ H Q hq => by
  obtain ⟨F, M, es, post, hs, he, ht, hf⟩ := hq
  refine ⟨F, M, es, _, hs, he, ht, fun M1 s F1 H1 v p1 e1 hs1 r1 => ?_⟩
  obtain ⟨k, rfl, p1⟩ := p1
  exact ⟨k, dq_bl r1, (hf.mono e1).dat hs1 (.bl _) p1⟩
/-- x if t else y -/
def dIfE (θ : DTT) (τa τb : DT) : DT := fun M es post => θ M es fun M1 b => if b = true then τa M1 es post else τb M1 es post
theorem pd_ifE {c : Expr} (hc : PDT X c θ) (ha : PD X a τa) (hb : PD X b τb) : PD X (.IfExp c a b pos) (dIfE θ τa τb) := peI (pe_ifExp hc ha hb) fun σ H Q hq => by
  obtain ⟨F, M, es, post, hs, he, ht, hf⟩ := hq
  refine ⟨F, M, es, _, hs, he, ht, fun M1 k F1 H1 p1 e1 hs1 => ?_⟩
  cases k with
  | true => rw [if_pos rfl] at p1; rw [if_pos rfl]; exact ⟨F1, M1, es, post, hs1, he.mono e1, p1, hf.mono e1⟩
  | false => rw [if_neg Bool.false_ne_true] at p1; rw [if_neg Bool.false_ne_true]; exact ⟨F1, M1, es, post, hs1, he.mono e1, p1, hf.mono e1⟩
/-- a chain of two comparisons of ints -/
def dChain (ρ ρ' : DR2) (τa τb τc : DT) : DT := fun M es post => τa M es fun M1 s1 => τb M1 es fun M2 s2 => ρ s1 s2 M2 fun M3 s => ∃ k, s = .d (.bool k) ∧ if k = true then τc M3 es fun M4 s3 => ρ' s2 s3 M4 post else post M3 (.d (.bool false))
theorem pd_chain {op op' : CmpOp} {r r' : R2} {ρ ρ' : DR2} (ho : OpR X (compareOp op) r) (h : Snd X.K r ρ) (ho' : OpR X (compareOp op') r') (h' : Snd X.K r' ρ') (ha : PD X a τa) (hb : PD X b τb) (hc : PD X c τc) (hm : lastMarks [op, op'] [b, c] = false := by with_unfolding_all rfl) : PD X (.Compare a [op, op'] [b, c] pos) (dChain ρ ρ' τa τb τc) := peI (pe_chain ho ho' ha hb hc (hm := hm)) fun σ H Q hq => by
  obtain ⟨F, M, es, post, hs, he, ht, hf⟩ := hq
  refine ⟨F, M, es, _, hs, he, ht, fun M1 s1 F1 H1 v1 p1 e1 hs1 r1 => ?_⟩
  refine ⟨F1, M1, es, _, hs1, he.mono e1, p1, fun M2 s2 F2 H2 v2 p2 e2 hs2 r2 => ?_⟩
  refine h F2 M2 H2 v1 v2 s1 s2 _ _ hs2 (r1.mono e2) r2 p2 fun M3 s F3 H3 v p3 e3 hs3 r3 => ?_
  obtain ⟨k, rfl, p3⟩ := p3
  refine ⟨k, dq_bl r3, ?_⟩
  have hf3 := ((hf.mono e1).mono e2).mono e3
  cases k with
  | true =>
    rw [if_pos rfl] at p3; rw [if_pos rfl]
    refine ⟨F3, M3, es, _, hs3, ((he.mono e1).mono e2).mono e3, p3, fun M4 s4 F4 H4 v4 p4 e4 hs4 r4 => ?_⟩
    exact h' F4 M4 H4 v2 v4 s2 s4 post Q hs4 ((r2.mono e3).mono e4) r4 p4 (hf3.mono e4)
  | false => rw [if_neg Bool.false_ne_true] at p3; rw [if_neg Bool.false_ne_true]; exact hf3.dat hs3 (.bl _) p3

/-! ### arguments and displays -/
def dNil : DA := fun M _ post => post M []
def dCons (τ : DT) (α : DA) : DA := fun M es post => τ M es fun M1 s => α M1 es fun M2 ss => post M2 (s :: ss)
variable {α : DA} {es : List Expr}
theorem pda_nil : PDA X [] dNil := paI pa_nil fun σ H Q hq => by
  obtain ⟨F, M, es, post, hs, he, ht, hf⟩ := hq
  exact hf _ _ F H [] ht (Same.refl F) hs .nil
theorem pda_cons (ha : PD X e τ) (hr : PDA X es α) (hs : starEach (e :: es) X.env = (false, eval e X.env) :: starEach es X.env := by rfl) : PDA X (e :: es) (dCons τ α) := paI (pa_cons ha hr hs) fun σ H Q hq => by
  obtain ⟨F, M, es, post, hs, he, ht, hf⟩ := hq
  refine ⟨F, M, es, _, hs, he, ht, fun M1 s F1 H1 v p1 e1 hs1 r1 => ?_⟩
  exact ⟨F1, M1, es, _, hs1, he.mono e1, p1, fun M2 ss F2 H2 vs p2 e2 hs2 r2 => hf _ _ F2 H2 _ p2 (e1.trans e2) hs2 (.cons (r1.mono e2) r2)⟩
/-- [..]: data; mutable -/
def dLst (α : DA) : DT := fun M es post => α M es fun M1 ss => ∃ ds, ss = ds.map Sl.d ∧ ds.length ≤ sizeLine ∧ post M1 (.d (.list ds))
def dLstM (α : DA) : DT := fun M es post => α M es fun M1 ss => ss.length ≤ sizeLine ∧ ∀ p, M1 p = none → post (mput M1 p (.lst ss)) (.m p)
def dTup (α : DA) : DT := fun M es post => α M es fun M1 ss => ∃ ds, ss = ds.map Sl.d ∧ ds.length ≤ sizeLine ∧ post M1 (.d (.tuple ds))
theorem pd_lst (ha : PDA X es α) : PD X (.List es pos) (dLst α) := peI (pe_lst ha) fun σ H Q hq => by
  obtain ⟨F, M, es, post, hs, he, ht, hf⟩ := hq
  refine ⟨F, M, es, _, hs, he, ht, fun M1 ss F1 H1 vs p1 e1 hs1 r1 => ?_⟩
  obtain ⟨ds, rfl, hl, hp⟩ := p1
  have rd := sls_data r1
  exact ⟨by rw [rd.length]; exact hl, (hf.mono e1).newL hs1 rd hp⟩
theorem pd_lstM (ha : PDA X es α) : PD X (.List es pos) (dLstM α) := peI (pe_lst ha) fun σ H Q hq => by
  obtain ⟨F, M, es, post, hs, he, ht, hf⟩ := hq
  refine ⟨F, M, es, _, hs, he, ht, fun M1 ss F1 H1 vs p1 e1 hs1 r1 => ?_⟩
  exact ⟨by rw [Paired.len' r1]; exact p1.1, (hf.mono e1).newML hs1 r1 p1.2⟩
theorem pd_tup {k} (ha : PDA X es α) : PD X (.Tuple es k pos) (dTup α) := peI (pe_tup ha) fun σ H Q hq => by
  obtain ⟨F, M, es, post, hs, he, ht, hf⟩ := hq
  refine ⟨F, M, es, _, hs, he, ht, fun M1 ss F1 H1 vs p1 e1 hs1 r1 => ?_⟩
  obtain ⟨ds, rfl, hl, hp⟩ := p1
  have rd := sls_data r1
  exact ⟨by rw [rd.length]; exact hl, (hf.mono e1).newT hs1 rd hp⟩
/-- a tuple of anything -/
def dTupT (α : DA) : DT := fun M es post => α M es fun M1 ss => ss.length ≤ sizeLine ∧ post M1 (.t ss)
theorem pd_tupT {k} (ha : PDA X es α) : PD X (.Tuple es k pos) (dTupT α) := peI (pe_tup ha) fun σ H Q hq => by
  obtain ⟨F, M, es, post, hs, he, ht, hf⟩ := hq
  refine ⟨F, M, es, _, hs, he, ht, fun M1 ss F1 H1 vs p1 e1 hs1 r1 => ?_⟩
  refine ⟨by rw [Paired.len' r1]; exact p1.1, fun p np => ?_⟩
  obtain ⟨e2, hs2⟩ := hs1.newD (o := .tup vs) np
  exact hf _ _ _ _ _ p1.2 (e1.trans e2) hs2 ⟨p, vs, rfl, upd_same, sls_tta (r1.mono e2)⟩

/-! ### slices -/
abbrev DO := MHp → List Sl → (MHp → Option Int → Prop) → Prop
def liftO (K : PySem.W.Frag) (τ : DO) : TO := fun σ H Q => ∃ F M es post, Hs K F M H ∧ Env K F σ es ∧ τ M es post ∧ ∀ M' o F' H', post M' o → Same F F' → Hs K F' M' H' → Q o H'
theorem poI {X : Cx} {e : Option Expr} {t t' : TO} (h : PO X e t) (hi : ∀ σ H Q, t' σ H Q → t σ H Q) : PO X e t' := ⟨fun pins s σ H Q I hq => h.run pins s σ H Q I (hi σ H Q hq)⟩
def dNoP : DO := fun M _ post => post M none
def dPart (τ : DT) : DO := fun M es post => τ M es fun M1 s => ∃ i, s = .d (.int i) ∧ post M1 (some i)
theorem pdo_none : PO X none (liftO X.K dNoP) := poI po_none fun σ H Q hq => by
  obtain ⟨F, M, es, post, hs, he, ht, hf⟩ := hq
  exact hf _ _ F H ht (Same.refl F) hs
theorem pdo_some (ha : PD X a τ) : PO X (some a) (liftO X.K (dPart τ)) := poI (po_some ha) fun σ H Q hq => by
  obtain ⟨F, M, es, post, hs, he, ht, hf⟩ := hq
  refine ⟨F, M, es, _, hs, he, ht, fun M1 s F1 H1 v p1 e1 hs1 r1 => ?_⟩
  obtain ⟨i, rfl, hp⟩ := p1
  exact ⟨i, dq_int r1, hf _ _ F1 H1 hp e1 hs1⟩
def cutD {β : Type} (xs : List β) (lo hi : Option Int) : List β := (xs.drop (HT.sIx xs.length 0 lo)).take (HT.sIx xs.length xs.length hi - HT.sIx xs.length 0 lo)
/-- x[lo:hi] of a list, a tuple, a text -/
def ρSl (s : Sl) (lo hi : Option Int) (M : MHp) (post : DP) : Prop := match s with
  | .d (.tuple ds) => post M (.d (.tuple (cutD ds lo hi)))
  | .d (.str z) => z.length ≤ sizeLine ∧ post M (.d (.str (cutS z lo hi)))
  | .s ns => post M (.d (.list (cutD (ns.map PyData.int) lo hi)))
  | s => ∃ ds, LstOf M s ds ∧ post M (.d (.list (cutD ds lo hi)))
def dSl (τ : DT) (l h : DO) : DT := fun M es post => τ M es fun M1 s => l M1 es fun M2 lo => h M2 es fun M3 hi => ρSl s lo hi M3 post
theorem cut_dq {F : Hp} {vs : List V} {ds : List PyData} (h : DqA F vs ds) (lo hi : Option Int) : DqA F (cutV vs lo hi) (cutD ds lo hi) := by
  unfold cutV cutD; rw [h.length]; exact (h.drop _).take _
theorem dqa_ints {F : Hp} : ∀ ns : List Int, DqA F (ns.map V.int) (ns.map PyData.int)
  | [] => .nil
  | _ :: r => .cons (.int _) (dqa_ints r)
theorem pd_slice {lo hi : Option Expr} {p2 : Pos} {l h : DO} (he : PD X e τ) (hl : PO X lo (liftO X.K l)) (hh : PO X hi (liftO X.K h)) : PD X (.Subscript e (.Slice lo hi none p2) pos) (dSl τ l h) :=
  peI (pe_slice (r := fun x lo hi H Q => rSlL X.K x lo hi H Q ∨ (rSlS x lo hi H Q ∨ rSlA X.K x lo hi H Q)) (L2.SlR.or sl_list (L2.SlR.or sl_str sl_tupA)) he hl hh) fun σ H Q hq => by
  obtain ⟨F, M, es, post, hs, he, ht, hf⟩ := hq
  refine ⟨F, M, es, _, hs, he, ht, fun M1 s F1 H1 v p1 e1 hs1 r1 => ?_⟩
  refine ⟨F1, M1, es, _, hs1, he.mono e1, p1, fun M2 lo F2 H2 p2 e2 hs2 => ?_⟩
  refine ⟨F2, M2, es, _, hs2, (he.mono e1).mono e2, p2, fun M3 hi F3 H3 p3 e3 hs3 => ?_⟩
  have r3 := (r1.mono e2).mono e3
  have hf3 := ((hf.mono e1).mono e2).mono e3
  unfold ρSl at p3
  split at p3
  · obtain ⟨p, vs, rfl, h1, h2⟩ := dq_tup r3
    refine .inr (.inr ⟨p, vs, rfl, SqT.of (hs3.ex _ _ h1), fun z => ?_, fun z => hf3.newT hs3 (cut_dq h2 lo hi) p3⟩)
    have e : ∀ ds : List PyData, vs.length = ds.length → cutD ds lo hi = ds := fun ds hl => by
      unfold cutD; rw [← hl, z.1, z.2, List.drop_zero, Nat.sub_zero, hl, List.take_length]
    rw [e _ h2.length] at p3
    exact hf3.dat hs3 (.tup h1 h2) p3
  · exact .inr (.inl ⟨_, dq_str r3, p3.1, hf3.dat hs3 (.str _) p3.2⟩)
  · obtain ⟨a, rfl, h1⟩ := r3
    exact .inl ⟨a, _, rfl, sq_same hs3.ex h1, hf3.newL hs3 (cut_dq (dqa_ints _) lo hi) p3⟩
  · obtain ⟨ds, h1, hp⟩ := p3
    obtain ⟨p, vs, rfl, h2, h3⟩ := h1.at hs3 r3
    exact .inl ⟨p, vs, rfl, SqL.of h2, hf3.newL hs3 (cut_dq h3 lo hi) hp⟩
/-- xs[::-1] -/
def dRev (τ : DT) : DT := fun M es post => τ M es fun M1 s => ∃ ds, LstOf M1 s ds ∧ post M1 (.d (.list ds.reverse))
theorem pd_rev {k p1 p2 p3} (he : PD X e τ) : PD X (.Subscript e (.Slice none none (some (.UnaryOp .USub (.Constant (.int 1) k p1) p2)) p3) pos) (dRev τ) := peI (pe_revL he) fun σ H Q hq => by
  obtain ⟨F, M, es, post, hs, he, ht, hf⟩ := hq
  refine ⟨F, M, es, _, hs, he, ht, fun M1 s F1 H1 v p1 e1 hs1 r1 => ?_⟩
  obtain ⟨ds, h1, hp⟩ := p1
  obtain ⟨p, vs, rfl, h2, h3⟩ := h1.at hs1 r1
  exact ⟨p, vs, rfl, SqL.of h2, (hf.mono e1).newL hs1 h3.reverse hp⟩
end

/-! ### statements -/
structure DE where
  nx : MHp → List Sl → Prop
  rt : DP
  bk : MHp → List Sl → Prop := fun _ _ => False
  ct : MHp → List Sl → Prop := fun _ _ => False
abbrev DS := DE → MHp → List Sl → Prop
def FolS (K : PySem.W.Frag) (F : Hp) (post : MHp → List Sl → Prop) (Q : L2.St → Hp → Prop) : Prop := ∀ M es F' σ H, post M es → Same F F' → Hs K F' M H → Env K F' σ es → Q σ H
theorem FolS.mono {K : PySem.W.Frag} {F F1 : Hp} {post : MHp → List Sl → Prop} {Q : L2.St → Hp → Prop} (h : FolS K F post Q) (e : Same F F1) : FolS K F1 post Q := fun M s F' H' v p e' => h M s F' H' v p (e.trans e')
structure Im (K : PySem.W.Frag) (F : Hp) (D' : DE) (D : Ends) : Prop where
  nx : FolS K F D'.nx D.nx
  rt : Fol K F D'.rt D.rt
  bk : FolS K F D'.bk D.bk
  ct : FolS K F D'.ct D.ct
theorem Im.mono {K : PySem.W.Frag} {F F1 : Hp} {D' : DE} {D : Ends} (h : Im K F D' D) (e : Same F F1) : Im K F1 D' D := ⟨h.nx.mono e, h.rt.mono e, h.bk.mono e, h.ct.mono e⟩
def liftS (K : PySem.W.Frag) (τ : DS) : L2.TS := fun D σ H => ∃ F M es D', Hs K F M H ∧ Env K F σ es ∧ τ D' M es ∧ Im K F D' D
abbrev PDS (X : Cx) (st : Stmt) (τ : DS) : Prop := PS X st (liftS X.K τ)
abbrev PDSs (X : Cx) (st : List Stmt) (τ : DS) : Prop := PSs X st (liftS X.K τ)
section
variable {X : Cx} {e a b : Expr} {st : Stmt} {rest : List Stmt} {τ : DT} {ς ςa ςb : DS} {θ : DTT} {pos : Pos}
def dNext : DS := fun D M es => D.nx M es
def dSeq (ςa ςb : DS) : DS := fun D M es => ςa { D with nx := ςb D } M es
theorem pds_nil : PDSs X [] dNext := pssI pss_nil fun D σ H hq => by
  obtain ⟨F, M, es, D', hs, he, ht, hf⟩ := hq
  exact hf.nx M es F σ H ht (Same.refl F) hs he
theorem pds_cons (h1 : PDS X st ςa) (h2 : PDSs X rest ςb) : PDSs X (st :: rest) (dSeq ςa ςb) := pssI (pss_cons h1 h2) fun D σ H hq => by
  obtain ⟨F, M, es, D', hs, he, ht, hf⟩ := hq
  exact ⟨F, M, es, { D' with nx := ςb D' }, hs, he, ht, ⟨fun M1 es1 F1 σ1 H1 p1 e1 hs1 he1 => ⟨F1, M1, es1, D', hs1, he1, p1, hf.mono e1⟩, hf.rt, hf.bk, hf.ct⟩⟩
theorem pds_one (h1 : PDS X st ςa) : PDSs X [st] ςa := pss_one h1
theorem pds_pass : PDS X (.Pass pos) dNext := psI ps_pass fun D σ H hq => by
  obtain ⟨F, M, es, D', hs, he, ht, hf⟩ := hq
  exact hf.nx M es F σ H ht (Same.refl F) hs he
def dBreak : DS := fun D M es => D.bk M es
def dCont : DS := fun D M es => D.ct M es
theorem pds_break : PDS X (.Break pos) dBreak := psI ps_break fun D σ H hq => by
  obtain ⟨F, M, es, D', hs, he, ht, hf⟩ := hq
  exact hf.bk M es F σ H ht (Same.refl F) hs he
theorem pds_cont : PDS X (.Continue pos) dCont := psI ps_continue fun D σ H hq => by
  obtain ⟨F, M, es, D', hs, he, ht, hf⟩ := hq
  exact hf.ct M es F σ H ht (Same.refl F) hs he
def dExpr (τ : DT) : DS := fun D M es => τ M es fun M1 _ => D.nx M1 es
theorem pds_expr (h : PD X e τ) (hs : swapsWith e none pos.line X.env = pure false := by rfl) : PDS X (.Expr e pos) (dExpr τ) := psI (ps_expr h hs) fun D σ H hq => by
  obtain ⟨F, M, es, D', hs, he, ht, hf⟩ := hq
  exact ⟨F, M, es, _, hs, he, ht, fun M1 s F1 H1 v p1 e1 hs1 r1 => hf.nx _ _ F1 σ H1 p1 e1 hs1 (he.mono e1)⟩
def dRet (τ : DT) : DS := fun D M es => τ M es D.rt
theorem pds_ret (h : PD X e τ) : PDS X (.Return (some e) pos) (dRet τ) := psI (ps_ret h) fun D σ H hq => by
  obtain ⟨F, M, es, D', hs, he, ht, hf⟩ := hq
  exact ⟨F, M, es, _, hs, he, ht, hf.rt⟩
def dRetN : DS := fun D M _ => D.rt M (.d .none)
theorem pds_retN : PDS X (.Return none pos) dRetN := psI ps_retN fun D σ H hq => by
  obtain ⟨F, M, es, D', hs, he, ht, hf⟩ := hq
  exact hf.rt.dat hs .non ht
def dIf (θ : DTT) (ςa ςb : DS) : DS := fun D M es => θ M es fun M1 b => if b = true then ςa D M1 es else ςb D M1 es
theorem pds_if {c : Expr} {sa sb : List Stmt} (hc : PDT X c θ) (ha : PDSs X sa ςa) (hb : PDSs X sb ςb) : PDS X (.If c sa sb pos) (dIf θ ςa ςb) := psI (ps_if hc ha hb) fun D σ H hq => by
  obtain ⟨F, M, es, D', hs, he, ht, hf⟩ := hq
  refine ⟨F, M, es, _, hs, he, ht, fun M1 k F1 H1 p1 e1 hs1 => ?_⟩
  cases k with
  | true => rw [if_pos rfl] at p1; rw [if_pos rfl]; exact ⟨F1, M1, es, D', hs1, he.mono e1, p1, hf.mono e1⟩
  | false => rw [if_neg Bool.false_ne_true] at p1; rw [if_neg Bool.false_ne_true]; exact ⟨F1, M1, es, D', hs1, he.mono e1, p1, hf.mono e1⟩
/-- x = e -/
def dSet (i : Nat) (τ : DT) : DS := fun D M es => τ M es fun M1 s => D.nx M1 (es.set i s)
theorem env_set {K : PySem.W.Frag} {F : Hp} {σ : L2.St} {es : List Sl} {v : V} {s : Sl} (i : Nat) (h : Env K F σ es) (r : SlR K F v s) : Env K F (σ.set i (some v)) (es.set i s) := Paired.set' (OR.some r) i h
theorem lift_set {K : PySem.W.Frag} {i : Nat} {D : Ends} {σ : L2.St} {H : Hp} (hq : liftS K (dSet i τ) D σ H) : tAsg (lift K τ) (gName i) D σ H := by
  obtain ⟨F, M, es, D', hs, he, ht, hf⟩ := hq
  exact ⟨F, M, es, _, hs, he, ht, fun M1 s F1 H1 v p1 e1 hs1 r1 => hf.nx _ _ F1 _ H1 p1 e1 hs1 (env_set i (he.mono e1) r1)⟩
theorem pds_set {i : Nat} {x : Str} {pos' : Pos} (hN : X.N.Nodup) (hi : X.N[i]? = some x) (hx : Loc X.env.scope x) (he : PD X e τ) (hs : swapsWith e (some (.Name x pos')) pos.line X.env = pure false := by rfl) (hf : X.fn x = true ∨ X.env.scope.names.lookup x = some .local := by first | exact .inl rfl | exact .inr rfl | assumption) :
    PDS X (.Assign [.Name x pos'] e pos) (dSet i τ) := psI (ps_set hN hi hx he hs hf) fun D σ H hq => lift_set hq
/-- x, y = e (a tuple of data, or a mutable one) -/
def setAll (es : List Sl) : List Nat → List Sl → List Sl
  | j :: js, s :: ss => setAll (es.set j s) js ss
  | _, _ => es
def TupOf (M : MHp) (s : Sl) (ss : List Sl) : Prop := match s with
  | .d (.tuple ds) => ss = ds.map Sl.d
  | .t us => ss = us
  | _ => False
theorem TupOf.at {K : PySem.W.Frag} {F : Hp} {M : MHp} {H : Hp} {s : Sl} {v : V} {ss : List Sl} (h : TupOf M s ss) (hs : Hs K F M H) (r : SlR K F v s) : ∃ a vs, v = .ref a ∧ H a = some (.tup vs) ∧ SlsR K F vs ss := by
  cases s with
  | n => exact h.elim
  | s _ => exact h.elim
  | t us =>
    have h : ss = us := h
    subst h
    obtain ⟨a, vs, rfl, h1, h2⟩ := r
    exact ⟨a, vs, rfl, hs.ex _ _ h1, tta_sls h2⟩
  | m a => exact h.elim
  | d x =>
    cases x with
    | tuple es =>
      have h : ss = es.map Sl.d := h
      subst h
      obtain ⟨a, vs, rfl, h1, h2⟩ := dq_tup r
      exact ⟨_, _, rfl, hs.ex _ _ h1, data_sls h2⟩
    | _ => exact h.elim
/-- a target: a name, names in a tuple -/
inductive Tg where
  | nm (j : Nat) | tp (js : List Nat)
def Tg.set (t : Tg) (s : Sl) (M : MHp) (es : List Sl) (k : List Sl → Prop) : Prop := match t with
  | .nm j => k (es.set j s)
  | .tp js => ∃ ss, TupOf M s ss ∧ ss.length = js.length ∧ k (setAll es js ss)
/-- a target's reading -/
def gAll : List Nat → TGs
  | [] => gNil
  | j :: js => gCons (gName j) (gAll js)
def Tg.g (K : PySem.W.Frag) : Tg → TG
  | .nm j => gName j
  | .tp js => gTup K js.length (gAll js)
def setV (σ : L2.St) : List Nat → List V → L2.St
  | j :: js, v :: vs => setV (σ.set j (some v)) js vs
  | _, _ => σ
theorem g_all {Q : L2.St → Hp → Prop} {H : Hp} : ∀ {js : List Nat} {vs : List V} {σ : L2.St}, vs.length = js.length → Q (setV σ js vs) H → gAll js vs σ H Q
  | [], [], _, _, q => ⟨rfl, q⟩
  | j :: js, v :: vs, σ, hl, q => ⟨v, vs, rfl, g_all (js := js) (vs := vs) (σ := σ.set j (some v)) (by simpa using hl) q⟩
theorem env_setAll {K : PySem.W.Frag} {F : Hp} : ∀ {js : List Nat} {vs : List V} {ss : List Sl} {σ : L2.St} {es : List Sl}, SlsR K F vs ss → Env K F σ es → Env K F (setV σ js vs) (setAll es js ss)
  | [], _, _, _, _, _, h => by unfold setV setAll; exact h
  | _ :: _, _, _, _, _, .nil, h => by unfold setV setAll; exact h
  | j :: js, _, _, _, _, .cons r rs, h => by unfold setV setAll; exact env_setAll rs (env_set j h r)
theorem Tg.lift {K : PySem.W.Frag} {t : Tg} {F : Hp} {M : MHp} {H : Hp} {σ : L2.St} {es : List Sl} {s : Sl} {v : V} {k : List Sl → Prop} {Q : L2.St → Hp → Prop} (hs : Hs K F M H) (he : Env K F σ es) (r : SlR K F v s) (h : t.set s M es k)
    (hq : ∀ σ' es', Env K F σ' es' → k es' → Q σ' H) : t.g K v σ H Q := by
  cases t with
  | nm j => exact hq _ _ (env_set j he r) h
  | tp js =>
    obtain ⟨ss, h1, h2, h3⟩ := h
    obtain ⟨a, vs, rfl, h4, h5⟩ := h1.at hs r
    exact ⟨a, vs, rfl, SqT.of h4, by rw [Paired.len' h5]; exact h2, g_all (by rw [Paired.len' h5]; exact h2) (hq _ _ (env_setAll h5 he) h3)⟩
abbrev PDG (X : Cx) (tg : Expr) (t : Tg) : Prop := PG X tg (t.g X.K)
theorem pdg_nm {i : Nat} {x : Str} (hN : X.N.Nodup) (hi : X.N[i]? = some x) (hx : Loc X.env.scope x) (hf : X.fn x = true ∨ X.env.scope.names.lookup x = some .local := by first | exact .inl rfl | exact .inr rfl | assumption) : PDG X (.Name x pos) (.nm i) := pg_name hN hi hx hf
theorem pdg_tp {es : List Expr} {k : Nat} {js : List Nat} (hc : X.calm = true) (h : PGs X es (gAll js)) (hn : (assignEach es X.env).length = js.length := by rfl) (hst : (assignEach es X.env).findIdx? (·.1) = none := by rfl) : PDG X (.Tuple es k pos) (.tp js) := pg_tup hc h hn hst
theorem pdgs_cons {i : Nat} {x : Str} {es : List Expr} {js : List Nat} (hN : X.N.Nodup) (hi : X.N[i]? = some x) (hx : Loc X.env.scope x) (h2 : PGs X es (gAll js)) (hf : X.fn x = true ∨ X.env.scope.names.lookup x = some .local := by first | exact .inl rfl | exact .inr rfl | assumption)
    (hs : (assignEach (.Name x pos :: es) X.env).map (·.2) = assign (.Name x pos) X.env :: (assignEach es X.env).map (·.2) := by rfl) : PGs X (.Name x pos :: es) (gAll (i :: js)) := pgs_cons (pg_name hN hi hx hf) h2 hs
def dAsg (t : Tg) (τ : DT) : DS := fun D M es => τ M es fun M1 s => t.set s M1 es (D.nx M1)
theorem pds_asg {tg e : Expr} {t : Tg} (he : PD X e τ) (hg : PDG X tg t) (hs : swapsWithSole [tg] e pos.line X.env = pure false := by rfl) (hw : swappedStores [tg] e X.env = pure none := by rfl) (h1 : (assignEach [tg] X.env).map (·.2) = [assign tg X.env] := by rfl) : PDS X (.Assign [tg] e pos) (dAsg t τ) :=
  psI (ps_asg he hg hs hw (h1 := h1)) fun D σ H hq => by
  obtain ⟨F, M, es, D', hs, he, ht, hf⟩ := hq
  refine ⟨F, M, es, _, hs, he, ht, fun M1 s F1 H1 v p1 e1 hs1 r1 => ?_⟩
  exact Tg.lift hs1 (he.mono e1) r1 p1 fun σ' es' he' hk => hf.nx _ _ F1 _ H1 hk e1 hs1 he'
/-- x, y = a, b -/
def dPar (i j : Nat) (α : DA) : DS := fun D M es => α M es fun M1 ss => match ss with
  | [s, t] => D.nx M1 ((es.set i s).set j t)
  | _ => False
theorem pds_par {i j : Nat} {x y : Str} {a b : Expr} {α : DA} {px py pt : Pos} {kt k2 pt2} (hc : X.calm = true) (hN : X.N.Nodup) (hi : X.N[i]? = some x) (hj : X.N[j]? = some y) (hij : i ≠ j)
    (hx : X.env.scope.names.lookup x = some .local) (hy : X.env.scope.names.lookup y = some .local) (ha : PDA X [a, b] α)
    (hw : swappedStores [.Tuple [.Name x px, .Name y py] kt pt] (.Tuple [a, b] k2 pt2) X.env = pure (some [x, y]))
    (hs : swapsWithSole [.Tuple [.Name x px, .Name y py] kt pt] (.Tuple [a, b] k2 pt2) pos.line X.env = pure false := by rfl) : PDS X (.Assign [.Tuple [.Name x px, .Name y py] kt pt] (.Tuple [a, b] k2 pt2) pos) (dPar i j α) :=
  psI (ps_par hc hN hi hj hij hx hy ha hw hs) fun D σ H hq => by
  obtain ⟨F, M, es, D', hs, he, ht, hf⟩ := hq
  refine ⟨F, M, es, _, hs, he, ht, fun M1 ss F1 H1 vs p1 e1 hs1 r1 => ?_⟩
  cases r1 with
  | nil => exact p1.elim
  | cons r1 r2 =>
    cases r2 with
    | nil => exact p1.elim
    | cons r2 r3 =>
      cases r3 with
      | cons _ _ => exact p1.elim
      | nil => exact ⟨_, _, rfl, hf.nx _ _ F1 _ H1 p1 e1 hs1 (env_set j (env_set i (he.mono e1) r1) r2)⟩
/-- x += e (ints) -/
def dAugI (f : Int → Int → Int) (i : Nat) (τ : DT) : DS := fun D M es => ∃ k, es[i]? = some (.d (.int k)) ∧ τ M es fun M1 s => ∃ l, s = .d (.int l) ∧ D.nx M1 (es.set i (.d (.int (f k l))))
theorem pds_aug {i : Nat} {x : Str} {op : Operator} {f : Int → Int → Int} {pos' : Pos} (hN : X.N.Nodup) (hi : X.N[i]? = some x) (hx : Loc X.env.scope x) (he : PD X e τ) (ho : PIp X op (ipI f)) (hf : X.fn x = true ∨ X.env.scope.names.lookup x = some .local := by first | exact .inl rfl | exact .inr rfl | assumption) :
    PDS X (.AugAssign (.Name x pos') op e pos) (dAugI f i τ) := psI (ps_aug hN hi hx he ho hf) fun D σ H hq => by
  obtain ⟨F, M, es, D', hs, he, ⟨k, hk, ht⟩, hf⟩ := hq
  obtain ⟨v, h1, h2⟩ := or_var he hk (by simp)
  refine ⟨v, h1, F, M, es, _, hs, he, ht, fun M1 s F1 H1 w p1 e1 hs1 r1 => ?_⟩
  obtain ⟨l, rfl, hp⟩ := p1
  exact ⟨k, l, dq_int h2, dq_int r1, hf.nx _ _ F1 _ H1 hp e1 hs1 (env_set i (he.mono e1) (s := .d (.int (f k l))) (.int _))⟩
end
end DL
set_option Elab.async false
set_option autoImplicit false
set_option linter.all false
set_option maxRecDepth 100000
set_option maxHeartbeats 2000000
namespace DL
open PySem PySem.Spec PyProof.Rows L2

/-! ### what is walked -/
structure Wk where
  n : Nat
  y : Nat → Sl
  G : MHp → Prop := fun _ => True
structure WalkD (K : PySem.W.Frag) (F : Hp) (J : It) (w : Wk) : Prop where
  goes : ∀ i F' M H, Same F F' → Hs K F' M H → w.G M → i < w.n → J.go i H
  stops : ∀ F' M H, Same F F' → Hs K F' M H → w.G M → J.stop w.n H
  yields : ∀ i F' M H x H', Same F F' → Hs K F' M H → w.G M → i < w.n → J.yld i H x H' → ∃ F'', Same F' F'' ∧ Hs K F'' M H' ∧ SlR K F'' x (w.y i)
theorem WalkD.mono {K : PySem.W.Frag} {F F1 : Hp} {J : It} {w : Wk} (h : WalkD K F J w) (e : Same F F1) : WalkD K F1 J w :=
  ⟨fun i F' M H e' => h.goes i F' M H (e.trans e'), fun F' M H e' => h.stops F' M H (e.trans e'), fun i F' M H x H' e' => h.yields i F' M H x H' (e.trans e')⟩
abbrev DI := MHp → List Sl → (MHp → Wk → Prop) → Prop
def FolI (K : PySem.W.Frag) (F : Hp) (post : MHp → Wk → Prop) (R : It → Hp → Prop) : Prop := ∀ M' w F' H' J, post M' w → Same F F' → Hs K F' M' H' → WalkD K F' J w → R J H'
def liftI (K : PySem.W.Frag) (ι : DI) : TI := fun σ H R => ∃ F M es post, Hs K F M H ∧ Env K F σ es ∧ ι M es post ∧ FolI K F post R
abbrev PDI (X : Cx) (tg iter : Expr) (ι : DI) : Prop := PI X tg iter (liftI X.K ι)
theorem piI {X : Cx} {tg e : Expr} {t t' : TI} (h : PI X tg e t) (hi : ∀ σ H Q, t' σ H Q → t σ H Q) : PI X tg e t' := ⟨fun pins s σ H Q I hq => h.run pins s σ H Q I (hi σ H Q hq)⟩
section
variable {X : Cx} {tg e a b l : Expr} {τ τa τb : DT} {pos p : Pos}
/-- over a list or a tuple -/
def iSeq (K : PySem.W.Frag) (tl : TE) : TI := fun σ H R => tl σ H fun x H1 => ∃ a, x = .ref a ∧ (((∃ xs, SqL K H1 a xs) ∧ R (Itl K a) H1) ∨ ((∃ xs, SqT K H1 a xs) ∧ R (Itt K a) H1))
theorem pi_seq {tl : TE} (hl : PE X l tl) : PI X tg l (iSeq X.K tl) := by
  refine ⟨fun pins s σ H R I h => ?_⟩
  refine thn (hl.run pins s σ H _ I h) fun v s1 ⟨x, H1, I1, r1, q1⟩ => ?_
  obtain ⟨a, e, q1⟩ := q1
  subst e
  cases r1
  have last : ∀ b ∈ [s1.heap.objs.size], FpOk X pins H1 b := fun b hb => by
    have e : b = s1.heap.objs.size := by simpa using hb
    subst e
    exact I1.fpOk (Nat.le_refl _) (I1.hok.fresh (Nat.le_refl _))
  rcases q1 with ⟨⟨xs, hq⟩, q⟩ | ⟨⟨xs, hq⟩, q⟩
  · obtain ⟨its, rv, p, hz⟩ := I1.list hq
    exact wpAny_pyIter_list p.isList ⟨s1.heap.objs.size, [s1.heap.objs.size], _, _, H1, rfl, I1.kept (t' := s1.toks) fun b o e => Heap.get?_push_of_some _ e, turn_list a _, ⟨_, Heap.get?_push_size _ rfl, rfl, rfl⟩, last, q⟩
  · obtain ⟨its, rv, p, hz⟩ := I1.tuple hq
    exact wpAny_pyIter_tuple (show s1.heap.IsTuple a its.toArray from p) ⟨s1.heap.objs.size, [s1.heap.objs.size], _, _, H1, rfl, I1.kept (t' := s1.toks) fun b o e => Heap.get?_push_of_some _ e, turn_tuple a _, ⟨_, Heap.get?_push_size _ rfl, rfl, rfl⟩, last, q⟩
theorem walk_of_list {K : PySem.W.Frag} {F : Hp} {a : Addr} {w : Wk} (h : ∀ F' M H, Same F F' → Hs K F' M H → w.G M → ∃ xs, SqL K H a xs ∧ xs.length = w.n ∧ ∀ (i : Nat) x, xs[i]? = some x → SlR K F' x (w.y i)) : WalkD K F (Itl K a) w where
  goes := fun i F' M H e hs hg hi => by
    obtain ⟨xs, h1, h2, h3⟩ := h F' M H e hs hg
    exact ⟨xs, xs[i]'(by omega), h1, by simp⟩
  stops := fun F' M H e hs hg => by
    obtain ⟨xs, h1, h2, h3⟩ := h F' M H e hs hg
    exact ⟨xs, h1, by omega⟩
  yields := fun i F' M H x H' e hs hg hi hy => by
    obtain ⟨xs, h1, h2, h3⟩ := h F' M H e hs hg
    obtain ⟨rfl, hy⟩ := hy
    exact ⟨F', Same.refl F', hs, h3 i x (hy xs h1)⟩
theorem walk_of_tup {K : PySem.W.Frag} {F : Hp} {a : Addr} {w : Wk} (h : ∀ F' M H, Same F F' → Hs K F' M H → w.G M → ∃ xs, SqT K H a xs ∧ xs.length = w.n ∧ ∀ (i : Nat) x, xs[i]? = some x → SlR K F' x (w.y i)) : WalkD K F (Itt K a) w where
  goes := fun i F' M H e hs hg hi => by
    obtain ⟨xs, h1, h2, h3⟩ := h F' M H e hs hg
    exact ⟨xs, xs[i]'(by omega), h1, by simp⟩
  stops := fun F' M H e hs hg => by
    obtain ⟨xs, h1, h2, h3⟩ := h F' M H e hs hg
    exact ⟨xs, h1, by omega⟩
  yields := fun i F' M H x H' e hs hg hi hy => by
    obtain ⟨xs, h1, h2, h3⟩ := h F' M H e hs hg
    obtain ⟨rfl, hy⟩ := hy
    exact ⟨F', Same.refl F', hs, h3 i x (hy xs h1)⟩
abbrev wkD (ds : List PyData) : Wk := ⟨ds.length, fun i => .d (ds.getD i .none), fun _ => True⟩
def wkM (a : Addr) (ss : List Sl) : Wk := ⟨ss.length, fun i => ss.getD i .n, fun M => M a = some (.lst ss)⟩
def ρWk (s : Sl) (M : MHp) (post : MHp → Wk → Prop) : Prop := match s with
  | .d (.list ds) => post M (wkD ds)
  | .d (.tuple ds) => post M (wkD ds)
  | .s ns => post M (wkD (ns.map PyData.int))
  | .m a => ∃ ss, M a = some (.lst ss) ∧ post M (wkM a ss)
  | .t ss => post M ⟨ss.length, fun i => ss.getD i .n, fun _ => True⟩
  | _ => False
theorem dqa_at {F : Hp} : ∀ {vs : List V} {ds : List PyData}, DqA F vs ds → ∀ (i : Nat) (x : V), vs[i]? = some x → Dq F x (ds.getD i .none)
  | _, _, .nil, _, _, e => by simp at e
  | _, _, .cons h _, 0, _, e => by simp at e; subst e; exact h
  | _, _, .cons _ r, i + 1, x, e => dqa_at r i x (by simpa using e)
theorem sls_at {K : PySem.W.Frag} {F : Hp} : ∀ {vs : List V} {ss : List Sl}, SlsR K F vs ss → ∀ (i : Nat) (x : V), vs[i]? = some x → SlR K F x (ss.getD i .n)
  | _, _, .nil, _, _, e => by simp at e
  | _, _, .cons h _, 0, _, e => by simp at e; subst e; exact h
  | _, _, .cons _ r, i + 1, x, e => sls_at r i x (by simpa using e)
theorem walk_wk {K : PySem.W.Frag} {F : Hp} {M : MHp} {H : Hp} {s : Sl} {v : V} {post : MHp → Wk → Prop} (hs : Hs K F M H) (r : SlR K F v s) (h : ρWk s M post) :
    ∃ a w, v = .ref a ∧ post M w ∧ (((∃ xs, SqL K H a xs) ∧ WalkD K F (Itl K a) w) ∨ ((∃ xs, SqT K H a xs) ∧ WalkD K F (Itt K a) w)) := by
  unfold ρWk at h
  split at h
  · obtain ⟨a, vs, rfl, h1, h2⟩ := dq_lst r
    refine ⟨a, _, rfl, h, .inl ⟨⟨vs, SqL.of (hs.ex _ _ h1)⟩, walk_of_list fun F' M' H' e hs' _ => ⟨vs, SqL.of (hs'.ex _ _ (e _ _ h1)), h2.length, fun i x hx => ?_⟩⟩⟩
    exact Dq.mono e _ _ (dqa_at h2 i x hx)
  · obtain ⟨a, vs, rfl, h1, h2⟩ := dq_tup r
    refine ⟨a, _, rfl, h, .inr ⟨⟨vs, SqT.of (hs.ex _ _ h1)⟩, walk_of_tup fun F' M' H' e hs' _ => ⟨vs, SqT.of (hs'.ex _ _ (e _ _ h1)), h2.length, fun i x hx => ?_⟩⟩⟩
    exact Dq.mono e _ _ (dqa_at h2 i x hx)
  · obtain ⟨a, rfl, h1⟩ := r
    refine ⟨a, _, rfl, h, .inl ⟨⟨_, sq_same hs.ex h1⟩, walk_of_list fun F' M' H' e hs' _ => ⟨_, sq_same hs'.ex (sq_same e h1), by simp, fun i x hx => ?_⟩⟩⟩
    exact dqa_at (dqa_ints _) i x hx
  · obtain ⟨ss, hM, hp⟩ := h
    obtain ⟨vs, h1, h2⟩ := hs.lst hM
    refine ⟨_, _, r, hp, .inl ⟨⟨vs, SqL.of h1⟩, walk_of_list fun F' M' H' e hs' hg => ?_⟩⟩
    obtain ⟨ws, h3, h4⟩ := hs'.lst (show M' _ = some (.lst ss) from hg)
    exact ⟨ws, SqL.of h3, Paired.len' h4, fun i x hx => sls_at h4 i x hx⟩
  · obtain ⟨a, vs, rfl, h1, h2⟩ := r
    refine ⟨a, _, rfl, h, .inr ⟨⟨vs, SqT.of (hs.ex _ _ h1)⟩, walk_of_tup fun F' M' H' e hs' _ => ⟨vs, SqT.of (hs'.ex _ _ (e _ _ h1)), Paired.len' (tta_sls h2), fun i x hx => ?_⟩⟩⟩
    exact sls_at ((tta_sls h2).mono e) i x hx
  · exact h.elim
def dIn (τ : DT) : DI := fun M es post => τ M es fun M1 s => ρWk s M1 post
theorem pdi_seq (hl : PD X l τ) : PDI X tg l (dIn τ) := piI (pi_seq hl) fun σ H R hq => by
  obtain ⟨F, M, es, post, hs, he, ht, hf⟩ := hq
  refine ⟨F, M, es, _, hs, he, ht, fun M1 s F1 H1 v p1 e1 hs1 r1 => ?_⟩
  obtain ⟨a, w, rfl, hp, h⟩ := walk_wk hs1 r1 p1
  refine ⟨a, rfl, ?_⟩
  rcases h with ⟨h1, h2⟩ | ⟨h1, h2⟩
  · exact .inl ⟨h1, hf _ w F1 H1 _ hp e1 hs1 h2⟩
  · exact .inr ⟨h1, hf _ w F1 H1 _ hp e1 hs1 h2⟩
/-- range(n), range(lo, hi) -/
abbrev wkR (lo : Int) (n : Nat) : Wk := ⟨n, fun i => .d (.int (lo + i)), fun _ => True⟩
theorem walk_rng {K : PySem.W.Frag} {F : Hp} {lo : Int} {n : Nat} : WalkD K F (Itr lo n) (wkR lo n) where
  goes := fun i F' M H e hs hg hi => hi
  stops := fun F' M H e hs hg => Nat.le_refl _
  yields := fun i F' M H x H' e hs hg hi hy => by
    obtain ⟨rfl, rfl⟩ := hy
    exact ⟨F', Same.refl F', hs, .int _⟩
def dRng1 (α : DA) : DI := fun M es post => α M es fun M1 ss => ∃ j, ss = [.d (.int j)] ∧ (-(2 ^ 62) ≤ j ∧ j < 2 ^ 62) ∧ post M1 (wkR 0 j.toNat)
def dRng2 (α : DA) : DI := fun M es post => α M es fun M1 ss => ∃ i j, ss = [.d (.int i), .d (.int j)] ∧ (-(2 ^ 62) ≤ i ∧ i < 2 ^ 62 ∧ -(2 ^ 62) ≤ j ∧ j < 2 ^ 62) ∧ post M1 (wkR i (j - i).toNat)
theorem sls1 {K : PySem.W.Frag} {F : Hp} {vs : List V} {s : Sl} (h : SlsR K F vs [s]) : ∃ v, vs = [v] ∧ SlR K F v s := by
  cases h with | cons h r => cases r; exact ⟨_, rfl, h⟩
theorem sls2 {K : PySem.W.Frag} {F : Hp} {vs : List V} {s t : Sl} (h : SlsR K F vs [s, t]) : ∃ v w, vs = [v, w] ∧ SlR K F v s ∧ SlR K F w t := by
  cases h with
  | cons h r =>
    cases r with
    | cons h2 r => cases r; exact ⟨_, _, rfl, h, h2⟩
theorem pdi_range1 {a : Expr} {α : DA} (hg : Gl X "range") (hm : X.mg "range" = none) (ha : PDA X [a] α) (hs : starEach [a] X.env = [(false, eval a X.env)] := by rfl) : PDI X tg (.Call (.Name "range" p) [a] [] pos) (dRng1 α) := piI (pi_range1 hg hm ha hs) fun σ H R hq => by
  obtain ⟨F, M, es, post, hs, he, ht, hf⟩ := hq
  refine ⟨F, M, es, _, hs, he, ht, fun M1 ss F1 H1 vs p1 e1 hs1 r1 => ?_⟩
  obtain ⟨j, rfl, ⟨h1, h2⟩, hp⟩ := p1
  obtain ⟨v, rfl, r⟩ := sls1 r1
  exact ⟨j, by rw [dq_int r], h1, h2, hf _ _ F1 H1 _ hp e1 hs1 walk_rng⟩
theorem pdi_range2 {a b : Expr} {α : DA} (hg : Gl X "range") (hm : X.mg "range" = none) (ha : PDA X [a, b] α) (hs : starEach [a, b] X.env = [(false, eval a X.env), (false, eval b X.env)] := by rfl) (hs2 : starEach [b] X.env = [(false, eval b X.env)] := by rfl) : PDI X tg (.Call (.Name "range" p) [a, b] [] pos) (dRng2 α) := piI (pi_range2 hg hm ha hs hs2) fun σ H R hq => by
  obtain ⟨F, M, es, post, hs, he, ht, hf⟩ := hq
  refine ⟨F, M, es, _, hs, he, ht, fun M1 ss F1 H1 vs p1 e1 hs1 r1 => ?_⟩
  obtain ⟨i, j, rfl, h1, hp⟩ := p1
  obtain ⟨v, w, rfl, r, r'⟩ := sls2 r1
  exact ⟨i, j, by rw [dq_int r, dq_int r'], h1, hf _ _ F1 H1 _ hp e1 hs1 walk_rng⟩
/-- enumerate, zip of lists of data -/
def LsOf (M : MHp) (s : Sl) (ds : List PyData) : Prop := LstOf M s ds ∨ ∃ ns : List Int, s = .s ns ∧ ds = ns.map PyData.int
/-- that the list stays -/
def LsStay (s : Sl) (ds : List PyData) (M : MHp) : Prop := match s with
  | .m a => M a = some (.lst (ds.map Sl.d))
  | _ => True
theorem LsOf.walk {K : PySem.W.Frag} {F : Hp} {M : MHp} {H : Hp} {s : Sl} {v : V} {ds : List PyData} (h : LsOf M s ds) (hs : Hs K F M H) (r : SlR K F v s) :
    ∃ a xs, v = .ref a ∧ SqL K H a xs ∧ ∀ F' M' H', Same F F' → Hs K F' M' H' → LsStay s ds M' → ∃ xs, SqL K H' a xs ∧ DqA F' xs ds := by
  rcases h with h | ⟨ns, rfl, rfl⟩
  · obtain ⟨a, vs, h0, h1, h2⟩ := h.at hs r
    refine ⟨a, vs, h0, SqL.of h1, fun F' M' H' e hs' hst => ?_⟩
    cases s with
    | n => exact h.elim
    | s _ => exact h.elim
    | t _ => exact h.elim
    | m b =>
      obtain ⟨ws, h3, h4⟩ := hs'.lst (show M' b = _ from hst)
      have : V.ref a = .ref b := h0.symm.trans r
      cases this
      exact ⟨ws, SqL.of h3, sls_data h4⟩
    | d x =>
      cases x with
      | list es =>
        have h : es = ds := h
        subst h
        obtain ⟨a', vs', h5, h6, h7⟩ := dq_lst r
        have : V.ref a = .ref a' := h0.symm.trans h5
        cases this
        exact ⟨vs', SqL.of (hs'.ex _ _ (e _ _ h6)), h7.mono e⟩
      | _ => exact h.elim
  · obtain ⟨a, h0, h1⟩ := r
    exact ⟨a, _, h0, sq_same hs.ex h1, fun F' M' H' e hs' _ => ⟨_, sq_same hs'.ex (sq_same e h1), dqa_ints _⟩⟩
def dEnum (α : DA) : DI := fun M es post => α M es fun M1 ss => ∃ s ds, ss = [s] ∧ LsOf M1 s ds ∧ post M1 ⟨ds.length, fun i => .d (.tuple [.int (i : Nat), ds.getD i .none]), LsStay s ds⟩
theorem pdi_enum {a : Expr} {α : DA} {elts : List Expr} {kk : Nat} {tpos : Pos} (hg : Gl X "enumerate") (hm : X.mg "enumerate" = none) (ha : PDA X [a] α) (hst : starEach [a] X.env = [(false, eval a X.env)] := by rfl) : PDI X (.Tuple elts kk tpos) (.Call (.Name "enumerate" p) [a] [] pos) (dEnum α) := piI (pi_enum hg hm ha hst) fun σ H R hq => by
  obtain ⟨F, M, es, post, hs, he, ht, hf⟩ := hq
  refine ⟨F, M, es, _, hs, he, ht, fun M1 ss F1 H1 vs p1 e1 hs1 r1 => ?_⟩
  obtain ⟨s, ds, rfl, h1, hp⟩ := p1
  obtain ⟨v, rfl, r⟩ := sls1 r1
  obtain ⟨a, xs, rfl, h2, h3⟩ := h1.walk hs1 r
  refine ⟨a, xs, rfl, h2, hf _ _ F1 H1 _ hp e1 hs1 ⟨fun i F' M' H' e hs' hg hi => ?_, fun F' M' H' e hs' hg => ?_, fun i F' M' H' x H'' e hs' hg hi hy => ?_⟩⟩
  · obtain ⟨ys, h4, h5⟩ := h3 F' M' H' e hs' hg
    have := h5.length
    have hi : i < ds.length := hi
    exact ⟨ys, ys[i]'(by omega), h4, by simp⟩
  · obtain ⟨ys, h4, h5⟩ := h3 F' M' H' e hs' hg
    exact ⟨ys, h4, Nat.le_of_eq h5.length⟩
  · obtain ⟨ys, h4, h5⟩ := h3 F' M' H' e hs' hg
    obtain ⟨T, y, rfl, nT, rfl, hy⟩ := hy
    obtain ⟨e2, hs2⟩ := hs'.newD (o := .tup [.int (i : Nat), y]) nT
    exact ⟨_, e2, hs2, .tup upd_same (.cons (.int _) (.cons (Dq.mono e2 _ _ (dqa_at h5 i y (hy ys h4))) .nil))⟩
def dZip (α : DA) : DI := fun M es post => α M es fun M1 ss => ∃ s t ds fs, ss = [s, t] ∧ ((LsOf M1 s ds ∧ LsOf M1 t fs) ∨ (s = .d (.tuple ds) ∧ t = .d (.tuple fs))) ∧ post M1 ⟨min ds.length fs.length, fun i => .d (.tuple [ds.getD i .none, fs.getD i .none]), fun M => LsStay s ds M ∧ LsStay t fs M⟩
theorem pdi_zip {a b : Expr} {α : DA} {elts : List Expr} {kk : Nat} {tpos : Pos} (hg : Gl X "zip") (hm : X.mg "zip" = none) (ha : PDA X [a, b] α) (hst : starEach [a, b] X.env = (false, eval a X.env) :: starEach [b] X.env := by rfl) (hpl : (backTo pos (starEach [b] X.env)).any (·.1) = false := by rfl) : PDI X (.Tuple elts kk tpos) (.Call (.Name "zip" p) [a, b] [] pos) (dZip α) := piI (RZ.pi_zipA hg hm ha hst hpl) fun σ H R hq => by
  obtain ⟨F, M, es, post, hs, he, ht, hf⟩ := hq
  refine ⟨F, M, es, _, hs, he, ht, fun M1 ss F1 H1 vs p1 e1 hs1 r1 => ?_⟩
  obtain ⟨s, t, ds, fs, rfl, h11, hp⟩ := p1
  obtain ⟨v, w, rfl, r, r'⟩ := sls2 r1
  rcases h11 with ⟨h1, h1'⟩ | ⟨rfl, rfl⟩
  · obtain ⟨a, xs, rfl, h2, h3⟩ := h1.walk hs1 r
    obtain ⟨b, xs', rfl, h2', h3'⟩ := h1'.walk hs1 r'
    refine ⟨a, b, xs, xs', rfl, .inl ⟨h2, h2', hf _ _ F1 H1 _ hp e1 hs1 ⟨fun i F' M' H' e hs' hg hi => ?_, fun F' M' H' e hs' hg => ?_, fun i F' M' H' x H'' e hs' hg hi hy => ?_⟩⟩⟩
    · obtain ⟨ys, h4, h5⟩ := h3 F' M' H' e hs' hg.1
      obtain ⟨zs, h4', h5'⟩ := h3' F' M' H' e hs' hg.2
      have l1 := h5.length
      have l2 := h5'.length
      have hi : i < min ds.length fs.length := hi
      exact ⟨ys, zs, ys[i]'(by omega), zs[i]'(by omega), h4, h4', by simp, by simp⟩
    · obtain ⟨ys, h4, h5⟩ := h3 F' M' H' e hs' hg.1
      obtain ⟨zs, h4', h5'⟩ := h3' F' M' H' e hs' hg.2
      have l1 := h5.length
      have l2 := h5'.length
      exact ⟨ys, zs, h4, h4', by show _ ≤ min ds.length fs.length ∨ _ ≤ min ds.length fs.length; omega⟩
    · obtain ⟨ys, h4, h5⟩ := h3 F' M' H' e hs' hg.1
      obtain ⟨zs, h4', h5'⟩ := h3' F' M' H' e hs' hg.2
      obtain ⟨T, y, z, rfl, nT, rfl, hy, hz⟩ := hy
      obtain ⟨e2, hs2⟩ := hs'.newD (o := .tup [y, z]) nT
      exact ⟨_, e2, hs2, .tup upd_same (.cons (Dq.mono e2 _ _ (dqa_at h5 i y (hy ys h4))) (.cons (Dq.mono e2 _ _ (dqa_at h5' i z (hz zs h4'))) .nil))⟩
  · obtain ⟨a, xs, rfl, h2, h3⟩ := dq_tup r
    obtain ⟨b, xs', rfl, h2', h3'⟩ := dq_tup r'
    have l1 := h3.length
    have l2 := h3'.length
    refine ⟨a, b, xs, xs', rfl, .inr ⟨SqT.of (hs1.ex _ _ h2), SqT.of (hs1.ex _ _ h2'), hf _ _ F1 H1 _ hp e1 hs1 ⟨fun i F' M' H' e hs' hg hi => ?_, fun F' M' H' e hs' hg => ?_, fun i F' M' H' x H'' e hs' hg hi hy => ?_⟩⟩⟩
    · have hi : i < min ds.length fs.length := hi
      exact ⟨xs, xs', xs[i]'(by omega), xs'[i]'(by omega), SqT.of (hs'.ex _ _ (e _ _ h2)), SqT.of (hs'.ex _ _ (e _ _ h2')), by simp, by simp⟩
    · exact ⟨xs, xs', SqT.of (hs'.ex _ _ (e _ _ h2)), SqT.of (hs'.ex _ _ (e _ _ h2')), by show _ ≤ min ds.length fs.length ∨ _ ≤ min ds.length fs.length; omega⟩
    · obtain ⟨T, y, z, rfl, nT, rfl, hy, hz⟩ := hy
      obtain ⟨e2, hs2⟩ := hs'.newD (o := .tup [y, z]) nT
      exact ⟨_, e2, hs2, .tup upd_same (.cons (Dq.mono (e.trans e2) _ _ (dqa_at h3 i y (hy xs (SqT.of (hs'.ex _ _ (e _ _ h2)))))) (.cons (Dq.mono (e.trans e2) _ _ (dqa_at h3' i z (hz xs' (SqT.of (hs'.ex _ _ (e _ _ h2')))))) .nil))⟩
/-- enumerate, zip of lists of anything: the pairs as tuples of slots -/
def LsS (M : MHp) (s : Sl) (ss : List Sl) : Prop := match s with
  | .d (.list ds) => ss = ds.map Sl.d
  | .m a => M a = some (.lst ss)
  | .s ns => ss = (ns.map PyData.int).map Sl.d
  | _ => False
def LsSt (s : Sl) (ss : List Sl) (M : MHp) : Prop := match s with
  | .m a => M a = some (.lst ss)
  | _ => True
theorem LsS.walk {K : PySem.W.Frag} {F : Hp} {M : MHp} {H : Hp} {s : Sl} {v : V} {ss : List Sl} (h : LsS M s ss) (hs : Hs K F M H) (r : SlR K F v s) :
    ∃ a xs, v = .ref a ∧ SqL K H a xs ∧ ∀ F' M' H', Same F F' → Hs K F' M' H' → LsSt s ss M' → ∃ xs, SqL K H' a xs ∧ SlsR K F' xs ss := by
  cases s with
  | n => exact h.elim
  | t _ => exact h.elim
  | s ns =>
    have h : ss = (ns.map PyData.int).map Sl.d := h
    subst h
    obtain ⟨a, h0, h1⟩ := r
    exact ⟨a, _, h0, sq_same hs.ex h1, fun F' M' H' e hs' _ => ⟨_, sq_same hs'.ex (sq_same e h1), data_sls (dqa_ints _)⟩⟩
  | m b =>
    obtain ⟨vs, h1, h2⟩ := hs.lst h
    refine ⟨b, vs, r, SqL.of h1, fun F' M' H' e hs' hst => ?_⟩
    obtain ⟨ws, h3, h4⟩ := hs'.lst (show M' b = _ from hst)
    exact ⟨ws, SqL.of h3, h4⟩
  | d x =>
    cases x with
    | list ds =>
      have h : ss = ds.map Sl.d := h
      subst h
      obtain ⟨a, vs, rfl, h1, h2⟩ := dq_lst r
      exact ⟨a, vs, rfl, SqL.of (hs.ex _ _ h1), fun F' M' H' e hs' _ => ⟨vs, SqL.of (hs'.ex _ _ (e _ _ h1)), data_sls (h2.mono e)⟩⟩
    | _ => exact h.elim
def dEnumS (α : DA) : DI := fun M es post => α M es fun M1 ss => ∃ s us, ss = [s] ∧ LsS M1 s us ∧ post M1 ⟨us.length, fun i => .t [.d (.int (i : Nat)), us.getD i .n], LsSt s us⟩
theorem pdi_enumS {a : Expr} {α : DA} {elts : List Expr} {kk : Nat} {tpos : Pos} (hg : Gl X "enumerate") (hm : X.mg "enumerate" = none) (ha : PDA X [a] α) (hst : starEach [a] X.env = [(false, eval a X.env)] := by rfl) : PDI X (.Tuple elts kk tpos) (.Call (.Name "enumerate" p) [a] [] pos) (dEnumS α) := piI (pi_enum hg hm ha hst) fun σ H R hq => by
  obtain ⟨F, M, es, post, hs, he, ht, hf⟩ := hq
  refine ⟨F, M, es, _, hs, he, ht, fun M1 ss F1 H1 vs p1 e1 hs1 r1 => ?_⟩
  obtain ⟨s, us, rfl, h1, hp⟩ := p1
  obtain ⟨v, rfl, r⟩ := sls1 r1
  obtain ⟨a, xs, rfl, h2, h3⟩ := h1.walk hs1 r
  refine ⟨a, xs, rfl, h2, hf _ _ F1 H1 _ hp e1 hs1 ⟨fun i F' M' H' e hs' hg hi => ?_, fun F' M' H' e hs' hg => ?_, fun i F' M' H' x H'' e hs' hg hi hy => ?_⟩⟩
  · obtain ⟨ys, h4, h5⟩ := h3 F' M' H' e hs' hg
    have := Paired.len' h5
    have hi : i < us.length := hi
    exact ⟨ys, ys[i]'(by omega), h4, by simp⟩
  · obtain ⟨ys, h4, h5⟩ := h3 F' M' H' e hs' hg
    exact ⟨ys, h4, Nat.le_of_eq (Paired.len' h5)⟩
  · obtain ⟨ys, h4, h5⟩ := h3 F' M' H' e hs' hg
    obtain ⟨T, y, rfl, nT, rfl, hy⟩ := hy
    obtain ⟨e2, hs2⟩ := hs'.newD (o := .tup [.int (i : Nat), y]) nT
    exact ⟨_, e2, hs2, T, _, rfl, upd_same, .cons (.d (.int _)) (.cons (TtR.mono e2 _ _ (sls_at h5 i y (hy ys h4)).tt) .nil)⟩
def dZipS (α : DA) : DI := fun M es post => α M es fun M1 ss => ∃ s t us ws, ss = [s, t] ∧ ((LsS M1 s us ∧ LsS M1 t ws) ∨ ∃ ds fs, s = .d (.tuple ds) ∧ t = .d (.tuple fs) ∧ us = ds.map Sl.d ∧ ws = fs.map Sl.d) ∧ post M1 ⟨min us.length ws.length, fun i => .t [us.getD i .n, ws.getD i .n], fun M => LsSt s us M ∧ LsSt t ws M⟩
theorem pdi_zipS {a b : Expr} {α : DA} {elts : List Expr} {kk : Nat} {tpos : Pos} (hg : Gl X "zip") (hm : X.mg "zip" = none) (ha : PDA X [a, b] α) (hst : starEach [a, b] X.env = (false, eval a X.env) :: starEach [b] X.env := by rfl) (hpl : (backTo pos (starEach [b] X.env)).any (·.1) = false := by rfl) : PDI X (.Tuple elts kk tpos) (.Call (.Name "zip" p) [a, b] [] pos) (dZipS α) := piI (RZ.pi_zipA hg hm ha hst hpl) fun σ H R hq => by
  obtain ⟨F, M, es, post, hs, he, ht, hf⟩ := hq
  refine ⟨F, M, es, _, hs, he, ht, fun M1 ss F1 H1 vs p1 e1 hs1 r1 => ?_⟩
  obtain ⟨s, t, us, ws, rfl, h11, hp⟩ := p1
  obtain ⟨v, w, rfl, r, r'⟩ := sls2 r1
  rcases h11 with ⟨h1, h1'⟩ | ⟨ds, fs, rfl, rfl, rfl, rfl⟩
  · obtain ⟨a, xs, rfl, h2, h3⟩ := h1.walk hs1 r
    obtain ⟨b, xs', rfl, h2', h3'⟩ := h1'.walk hs1 r'
    refine ⟨a, b, xs, xs', rfl, .inl ⟨h2, h2', hf _ _ F1 H1 _ hp e1 hs1 ⟨fun i F' M' H' e hs' hg hi => ?_, fun F' M' H' e hs' hg => ?_, fun i F' M' H' x H'' e hs' hg hi hy => ?_⟩⟩⟩
    · obtain ⟨ys, h4, h5⟩ := h3 F' M' H' e hs' hg.1
      obtain ⟨zs, h4', h5'⟩ := h3' F' M' H' e hs' hg.2
      have l1 := Paired.len' h5
      have l2 := Paired.len' h5'
      have hi : i < min us.length ws.length := hi
      exact ⟨ys, zs, ys[i]'(by omega), zs[i]'(by omega), h4, h4', by simp, by simp⟩
    · obtain ⟨ys, h4, h5⟩ := h3 F' M' H' e hs' hg.1
      obtain ⟨zs, h4', h5'⟩ := h3' F' M' H' e hs' hg.2
      have l1 := Paired.len' h5
      have l2 := Paired.len' h5'
      exact ⟨ys, zs, h4, h4', by show _ ≤ min us.length ws.length ∨ _ ≤ min us.length ws.length; omega⟩
    · obtain ⟨ys, h4, h5⟩ := h3 F' M' H' e hs' hg.1
      obtain ⟨zs, h4', h5'⟩ := h3' F' M' H' e hs' hg.2
      obtain ⟨T, y, z, rfl, nT, rfl, hy, hz⟩ := hy
      obtain ⟨e2, hs2⟩ := hs'.newD (o := .tup [y, z]) nT
      exact ⟨_, e2, hs2, T, _, rfl, upd_same, .cons (TtR.mono e2 _ _ (sls_at h5 i y (hy ys h4)).tt) (.cons (TtR.mono e2 _ _ (sls_at h5' i z (hz zs h4')).tt) .nil)⟩
  · obtain ⟨a, xs, rfl, h2, h3⟩ := dq_tup r
    obtain ⟨b, xs', rfl, h2', h3'⟩ := dq_tup r'
    have l1 := h3.length
    have l2 := h3'.length
    refine ⟨a, b, xs, xs', rfl, .inr ⟨SqT.of (hs1.ex _ _ h2), SqT.of (hs1.ex _ _ h2'), hf _ _ F1 H1 _ hp e1 hs1 ⟨fun i F' M' H' e hs' hg hi => ?_, fun F' M' H' e hs' hg => ?_, fun i F' M' H' x H'' e hs' hg hi hy => ?_⟩⟩⟩
    · have hi : i < min (ds.map Sl.d).length (fs.map Sl.d).length := hi
      rw [List.length_map, List.length_map] at hi
      exact ⟨xs, xs', xs[i]'(by omega), xs'[i]'(by omega), SqT.of (hs'.ex _ _ (e _ _ h2)), SqT.of (hs'.ex _ _ (e _ _ h2')), by simp, by simp⟩
    · exact ⟨xs, xs', SqT.of (hs'.ex _ _ (e _ _ h2)), SqT.of (hs'.ex _ _ (e _ _ h2')), by show _ ≤ min (ds.map Sl.d).length (fs.map Sl.d).length ∨ _ ≤ min (ds.map Sl.d).length (fs.map Sl.d).length; rw [List.length_map, List.length_map]; omega⟩
    · obtain ⟨T, y, z, rfl, nT, rfl, hy, hz⟩ := hy
      obtain ⟨e2, hs2⟩ := hs'.newD (o := .tup [y, z]) nT
      have q1 := sls_at (data_sls (K := X.K) (h3.mono (e.trans e2))) i y (hy xs (SqT.of (hs'.ex _ _ (e _ _ h2))))
      have q2 := sls_at (data_sls (K := X.K) (h3'.mono (e.trans e2))) i z (hz xs' (SqT.of (hs'.ex _ _ (e _ _ h2'))))
      exact ⟨_, e2, hs2, T, _, rfl, upd_same, .cons q1.tt (.cons q2.tt .nil)⟩

/-! ### for -/
def dFor (ι : DI) (t : Tg) (ς : DS) : DS := fun D M es => ι M es fun M1 w => ∃ P : Nat → MHp → List Sl → Prop, P 0 M1 es ∧ (∀ i M es, i ≤ w.n → P i M es → w.G M) ∧
  (∀ i M es, i < w.n → P i M es → t.set (w.y i) M es fun es2 => ς { D with nx := P (i + 1), ct := P (i + 1), bk := D.nx } M es2) ∧ ∀ M es, P w.n M es → D.nx M es
theorem pds_for {iter : Expr} {body : List Stmt} {ι : DI} {t : Tg} {ς : DS} (hp : PassesOwn (model X.prog X.w) X.A X.env X.xe) (hc : X.calm = true) (hi : PDI X tg iter ι) (hg : PDG X tg t) (hb : PDSs X body ς) (hs : ∀ x, foldedSetIterable iter X.env x = pure x := by intro _; rfl) : PDS X (.For tg iter body [] pos) (dFor ι t ς) := psI (ps_for hp hc hi hg hb hs) fun D σ H hq => by
  obtain ⟨F, M, es, D', hs, he, ht, hf⟩ := hq
  refine ⟨F, M, es, _, hs, he, ht, fun M1 w F1 H1 J p1 e1 hs1 hw => ?_⟩
  obtain ⟨P, h0, hG, hst, hd⟩ := p1
  refine ⟨fun i m σ H => m = w.n - i ∧ i ≤ w.n ∧ ∃ F' M es, Same F1 F' ∧ Hs X.K F' M H ∧ Env X.K F' σ es ∧ P i M es, ⟨w.n, by simp, Nat.zero_le _, F1, M1, es, Same.refl F1, hs1, he.mono e1, h0⟩, ?_⟩
  rintro i m σ' H' ⟨rfl, hi, F2, M2, es2, e2, hs2, he2, h2⟩
  have hg2 := hG i M2 es2 hi h2
  by_cases hlt : i < w.n
  · refine .inr ⟨hw.goes i F2 M2 H' e2 hs2 hg2 hlt, fun σ H => ∃ F' M es, Same F1 F' ∧ Hs X.K F' M H ∧ Env X.K F' σ es ∧ P (i + 1) M es, fun σ3 H3 p3 => ⟨w.n - (i + 1), by omega, rfl, hlt, p3⟩, fun x H3 hy => ?_⟩
    obtain ⟨F3, e3, hs3, r3⟩ := hw.yields i F2 M2 H' x H3 e2 hs2 hg2 hlt hy
    refine Tg.lift hs3 (he2.mono e3) r3 (hst i M2 es2 hlt h2) fun σ4 es4 he4 hk => ?_
    have e13 : Same F1 F3 := e2.trans e3
    have hf3 := (hf.mono e1).mono e13
    exact ⟨F3, M2, es4, _, hs3, he4, hk, ⟨fun M5 es5 F5 σ5 H5 p5 e5 hs5 he5 => ⟨F5, M5, es5, e13.trans e5, hs5, he5, p5⟩, hf3.rt, hf3.nx, fun M5 es5 F5 σ5 H5 p5 e5 hs5 he5 => ⟨F5, M5, es5, e13.trans e5, hs5, he5, p5⟩⟩⟩
  · have e : i = w.n := by omega
    subst e
    exact .inl ⟨hw.stops F2 M2 H' e2 hs2 hg2, hf.nx _ _ F2 _ _ (hd M2 es2 h2) (e1.trans e2) hs2 he2⟩
/-- while -/
def dWhile (θ : DTT) (ς : DS) : DS := fun D M es => ∃ P : Nat → MHp → List Sl → Prop, (∃ m, P m M es) ∧ ∀ m M es, P m M es → θ M es fun M1 b => if b = true then ς { D with nx := fun M' es' => ∃ m', m' < m ∧ P m' M' es', ct := fun M' es' => ∃ m', m' < m ∧ P m' M' es', bk := D.nx } M1 es else D.nx M1 es
theorem pds_while {c : Expr} {body : List Stmt} {θ : DTT} {ς : DS} (hp : PassesOwn (model X.prog X.w) X.A X.env X.xe) (hc : PDT X c θ) (hb : PDSs X body ς) : PDS X (.While c body [] pos) (dWhile θ ς) := psI (ps_while hp hc hb) fun D σ H hq => by
  obtain ⟨F, M, es, D', hs, he, ⟨P, ⟨m0, h0⟩, ht⟩, hf⟩ := hq
  refine ⟨fun m σ H => ∃ F' M es, Same F F' ∧ Hs X.K F' M H ∧ Env X.K F' σ es ∧ P m M es, ⟨m0, F, M, es, Same.refl F, hs, he, h0⟩, ?_⟩
  rintro m σ1 H1 ⟨F1, M1, es1, e1, hs1, he1, h1⟩
  refine ⟨F1, M1, es1, _, hs1, he1, ht m M1 es1 h1, fun M2 k F2 H2 p2 e2 hs2 => ?_⟩
  have e12 : Same F F2 := e1.trans e2
  cases k with
  | true =>
    have p2 := p2
    rw [if_pos rfl] at p2
    refine iteT ?_
    refine ⟨fun σ H => ∃ m', m' < m ∧ ∃ F' M es, Same F F' ∧ Hs X.K F' M H ∧ Env X.K F' σ es ∧ P m' M es, fun σ' H' q => q, F2, M2, es1, _, hs2, he1.mono e2, p2, ⟨fun M5 es5 F5 σ5 H5 p5 e5 hs5 he5 => ?_, (hf.mono e12).rt, (hf.mono e12).nx, fun M5 es5 F5 σ5 H5 p5 e5 hs5 he5 => ?_⟩⟩
    · obtain ⟨m', hm, p5⟩ := p5; exact ⟨m', hm, F5, M5, es5, e12.trans e5, hs5, he5, p5⟩
    · obtain ⟨m', hm, p5⟩ := p5; exact ⟨m', hm, F5, M5, es5, e12.trans e5, hs5, he5, p5⟩
  | false =>
    rw [if_neg Bool.false_ne_true] at p2
    refine iteF ?_
    exact hf.nx _ _ F2 _ _ p2 e12 hs2 (he1.mono e2)
end
end DL
set_option Elab.async false
set_option autoImplicit false
set_option linter.all false
set_option maxRecDepth 100000
set_option maxHeartbeats 2000000
namespace DL
open PySem PySem.Spec PyProof.Rows L2

/-! ### comprehensions -/
theorem wipe_set {i : Nat} {o : Option V} : ∀ {vs : List Nat} {σ : L2.St}, wipe (σ.set i o) vs = if i ∈ vs then wipe σ vs else (wipe σ vs).set i o
  | [], σ => by simp [wipe]
  | v :: vs, σ => by
    have ih := wipe_set (i := i) (o := o) (vs := vs) (σ := σ)
    unfold wipe
    rw [ih]
    by_cases h : i ∈ vs
    · rw [if_pos h, if_pos (List.mem_cons_of_mem _ h)]
    · rw [if_neg h]
      by_cases hv : i = v
      · subst hv; rw [if_pos (List.mem_cons_self ..), List.set_set]
      · rw [if_neg (by simp [hv, h]), List.set_comm _ _ hv]
theorem wipe_in {i : Nat} {o : Option V} {vs : List Nat} {σ : L2.St} (h : i ∈ vs) : wipe (σ.set i o) vs = wipe σ vs := by rw [wipe_set, if_pos h]
theorem wipe_setV {vs : List Nat} : ∀ {js : List Nat} {us : List V} {σ : L2.St}, (∀ j ∈ js, j ∈ vs) → wipe (setV σ js us) vs = wipe σ vs
  | [], _, _, _ => by unfold setV; rfl
  | _ :: _, [], _, _ => by unfold setV; rfl
  | j :: js, u :: us, σ, h => by
    unfold setV
    rw [wipe_setV (js := js) (us := us) fun k hk => h k (List.mem_cons_of_mem _ hk), wipe_in (h j (List.mem_cons_self ..))]
theorem wipe_sub {ws : List Nat} : ∀ {vs : List Nat} {σ : L2.St}, (∀ j ∈ vs, j ∈ ws) → wipe (wipe σ vs) ws = wipe σ ws
  | [], _, _ => rfl
  | v :: vs, σ, h => by
    show wipe ((wipe σ vs).set v none) ws = wipe σ ws
    rw [wipe_in (h v (List.mem_cons_self ..)), wipe_sub fun j hj => h j (List.mem_cons_of_mem _ hj)]
def wipeS (es : List Sl) : List Nat → List Sl
  | [] => es
  | v :: vs => (wipeS es vs).set v .n
theorem env_wipe {K : PySem.W.Frag} {F : Hp} {σ : L2.St} {es : List Sl} (h : Env K F σ es) : ∀ vs : List Nat, Env K F (wipe σ vs) (wipeS es vs)
  | [] => h
  | v :: vs => Paired.set' (R := OR K F) (x := none) (y := .n) trivial v (env_wipe h vs)
def Tg.ixs : Tg → List Nat
  | .nm j => [j]
  | .tp js => js
theorem Tg.lift2 {K : PySem.W.Frag} {t : Tg} {F : Hp} {M : MHp} {H : Hp} {σ : L2.St} {es : List Sl} {s : Sl} {v : V} {k : List Sl → Prop} {Q : L2.St → Hp → Prop} {vs : List Nat} (hs : Hs K F M H) (he : Env K F σ es) (r : SlR K F v s) (hv : ∀ j ∈ t.ixs, j ∈ vs) (h : t.set s M es k)
    (hq : ∀ σ' es', Env K F σ' es' → wipe σ' vs = wipe σ vs → k es' → Q σ' H) : t.g K v σ H Q := by
  cases t with
  | nm j => exact hq _ _ (env_set j he r) (wipe_in (hv j (List.mem_cons_self ..))) h
  | tp js =>
    obtain ⟨ss, h1, h2, h3⟩ := h
    obtain ⟨a, us, rfl, h4, h5⟩ := h1.at hs r
    exact ⟨a, us, rfl, SqT.of h4, by rw [Paired.len' h5]; exact h2, g_all (by rw [Paired.len' h5]; exact h2) (hq _ _ (env_setAll h5 he) (wipe_setV hv) h3)⟩
def dYes : DTT := fun M _ post => post M true
theorem pdts_nil {X : Cx} : PTs X [] (liftT X.K dYes) := ⟨fun pins s σ H Q I hq => pts_nil.run pins s σ H Q I (by
  obtain ⟨F, M, es, post, hs, he, ht, hf⟩ := hq
  exact hf _ _ F H ht (Same.refl F) hs)⟩
theorem pdts_one {X : Cx} {c : Expr} {θ : DTT} (h : PDT X c θ) : PTs X [c] (liftT X.K θ) := pts_one h
abbrev DFin := MHp → Addr → List Sl → DP → Prop
def finD : DFin := fun M Dn acc post => ∃ ds, acc = ds.map Sl.d ∧ post (mdel M Dn) (.d (.list ds))
def finM : DFin := fun M Dn _ post => post M (.m Dn)
def dLc (fin : DFin) (ι : DI) (t : Tg) (θ : DTT) (τ : DT) (vs : List Nat) : DT := fun M es post => ι M es fun M1 w => ∀ Dn, M1 Dn = none → ∃ P : Nat → MHp → List Sl → Prop, P 0 (mput M1 Dn (.lst [])) [] ∧
  (∀ i M acc, i ≤ w.n → P i M acc → w.G M ∧ M Dn = some (.lst acc)) ∧
  (∀ i M acc, i < w.n → P i M acc → t.set (w.y i) M (wipeS es vs) fun es2 => θ M es2 fun M2 b => if b = true then τ M2 es2 fun M3 s => M3 Dn = some (.lst acc) ∧ acc.length < sizeLine ∧ P (i + 1) (mput M3 Dn (.lst (acc ++ [s]))) (acc ++ [s]) else P (i + 1) M2 acc) ∧
  ∀ M acc, P w.n M acc → fin M Dn acc post
/-- how the new list is handed on -/
def FinOk (fin : DFin) : Prop := ∀ (K : PySem.W.Frag) F M H Dn acc post Q, Hs K F M H → M Dn = some (.lst acc) → fin M Dn acc post → Fol K F post Q → Q (.ref Dn) H
theorem fin_D : FinOk finD := by
  intro K F M H Dn acc post Q hs hM h hf
  obtain ⟨ds, rfl, hp⟩ := h
  obtain ⟨vs, h1, h2⟩ := hs.lst hM
  obtain ⟨e1, hs'⟩ := hs.freeze hM h1
  exact hf _ _ _ H _ hp e1 hs' (.lst upd_same ((sls_data h2).mono e1))
theorem fin_M : FinOk finM := by
  intro K F M H Dn acc post Q hs hM h hf
  exact hf _ _ F H _ h (Same.refl F) hs rfl
theorem lift_lc {K : PySem.W.Frag} {fin : DFin} {ι : DI} {t : Tg} {θ : DTT} {τ : DT} {vs : List Nat} (hfin : FinOk fin) (hv : ∀ j ∈ t.ixs, j ∈ vs) {σ : L2.St} {H : Hp} {Q : VK} (hq : lift K (dLc fin ι t θ τ vs) σ H Q) : tLc (liftI K ι) (t.g K) (liftT K θ) (lift K τ) vs σ H Q := by
  obtain ⟨F, M, es, post, hs, he, ht, hf⟩ := hq
  refine ⟨F, M, es, _, hs, he, ht, fun M1 w F1 H1 J p1 e1 hs1 hw => ?_⟩
  intro Dn hDn
  obtain ⟨P, h0, hG, hst, hd⟩ := p1 Dn (hs1.freeM hDn)
  refine ⟨fun i m H => m = w.n - i ∧ i ≤ w.n ∧ ∃ F' M acc, Same F1 F' ∧ Hs K F' M H ∧ P i M acc, ⟨w.n, by simp, Nat.zero_le _, F1, _, [], Same.refl F1, hs1.newM (o := .lst []) hDn ⟨[], upd_same, .nil⟩, h0⟩, ?_⟩
  rintro i m H' ⟨rfl, hi, F2, M2, acc, e2, hs2, h2⟩
  obtain ⟨hg2, hD2⟩ := hG i M2 acc hi h2
  by_cases hlt : i < w.n
  · refine .inr ⟨hw.goes i F2 M2 H' e2 hs2 hg2 hlt, fun H => ∃ F' M acc, Same F1 F' ∧ Hs K F' M H ∧ P (i + 1) M acc, fun H3 p3 => ⟨w.n - (i + 1), by omega, rfl, hlt, p3⟩, fun x H3 hy => ?_⟩
    obtain ⟨F3, e3, hs3, r3⟩ := hw.yields i F2 M2 H' x H3 e2 hs2 hg2 hlt hy
    have e13 : Same F1 F3 := e2.trans e3
    have hew : Env K F3 (wipe σ vs) (wipeS es vs) := env_wipe ((he.mono e1).mono e13) vs
    refine Tg.lift2 hs3 hew r3 hv (hst i M2 acc hlt h2) fun σ4 es4 he4 hwp hk => ⟨hwp.trans (wipe_sub fun _ z => z), ?_⟩
    refine ⟨F3, M2, es4, _, hs3, he4, hk, fun M5 b F5 H5 p5 e5 hs5 => ?_⟩
    cases b with
    | true =>
      rw [if_pos rfl] at p5
      refine iteT ?_
      refine ⟨F5, M5, es4, _, hs5, he4.mono e5, p5, fun M6 s F6 H6 v p6 e6 hs6 r6 => ?_⟩
      obtain ⟨q1, q2, q3⟩ := p6
      obtain ⟨us, q4, q5⟩ := hs6.lst q1
      refine ⟨us, q4, by rw [Paired.len' q5]; exact q2, F6, _, _, (e13.trans e5).trans e6, hs6.set (o := .lst (acc ++ [s])) q1 ⟨_, upd_same, Paired.app' q5 (.cons r6 .nil)⟩, q3⟩
    | false =>
      rw [if_neg Bool.false_ne_true] at p5
      exact iteF ⟨F5, M5, acc, e13.trans e5, hs5, p5⟩
  · have e : i = w.n := by omega
    subst e
    exact .inl ⟨hw.stops F2 M2 H' e2 hs2 hg2, hfin K F2 M2 H' Dn acc post Q hs2 hD2 (hd M2 acc h2) ((hf.mono e1).mono e2)⟩
section
variable {X : Cx} {pos : Pos}
theorem pd_lc {fin : DFin} {elt tg iter : Expr} {ifs : List Expr} {scope : Scope} {own : List (Str × Nat)} {ι : DI} {t : Tg} {θ : DTT} {τ : DT} (hfin : FinOk fin) (hc : X.calm = true) (hN : X.N.Nodup) (hi : PDI X tg iter ι) (ok : BlkOk X.N X.env.scope scope own) (hv : ∀ j ∈ t.ixs, j ∈ own.map (·.2))
    (hg : ∀ (s : Shared) (H : Hp) (C : Addr) (cl : List (Str × Addr)) (fp : List Addr), PDG (X.blk s H scope (compEnvC scope cl C X.env) fp) tg t) (ht : ∀ (s : Shared) (H : Hp) (C : Addr) (cl : List (Str × Addr)) (fp : List Addr), PTs (X.blk s H scope (compEnvC scope cl C X.env) fp) ifs (liftT X.K θ))
    (he : ∀ (s : Shared) (H : Hp) (C : Addr) (cl : List (Str × Addr)) (fp : List Addr), PD (X.blk s H scope (compEnvC scope cl C X.env) fp) elt τ) (hs : ∀ x, foldedSetIterable iter X.env x = pure x := by intro _; rfl) :
    PD X (.ListComp elt [⟨tg, iter, ifs, 0⟩] scope pos) (dLc fin ι t θ τ (own.map (·.2))) := peI (pe_lc hc hN hi ok hg ht he hs) fun σ H Q hq => lift_lc hfin hv hq
theorem pds_setLc {fin : DFin} {i : Nat} {y : Str} {py : Pos} {elt tg iter : Expr} {ifs : List Expr} {scope : Scope} {own : List (Str × Nat)} {spos : Pos} {ι : DI} {t : Tg} {θ : DTT} {τ : DT} (hfin : FinOk fin) (hc : X.calm = true) (hN : X.N.Nodup) (hy : X.N[i]? = some y) (hyl : X.env.scope.names.lookup y = some .local)
    (hsw : swapsWith (.ListComp elt [⟨tg, iter, ifs, 0⟩] scope pos) (some (.Name y py)) spos.line X.env = pure true) (hi : PDI X tg iter ι) (ok : BlkOk X.N X.env.scope scope own) (hv : ∀ j ∈ t.ixs, j ∈ own.map (·.2))
    (hg : ∀ (s : Shared) (H : Hp) (C : Addr) (cl : List (Str × Addr)) (fp : List Addr), PDG (X.blk s H scope (compEnvC scope cl C X.env) fp) tg t) (ht : ∀ (s : Shared) (H : Hp) (C : Addr) (cl : List (Str × Addr)) (fp : List Addr), PTs (X.blk s H scope (compEnvC scope cl C X.env) fp) ifs (liftT X.K θ))
    (he : ∀ (s : Shared) (H : Hp) (C : Addr) (cl : List (Str × Addr)) (fp : List Addr), PD (X.blk s H scope (compEnvC scope cl C X.env) fp) elt τ) (hs : ∀ x, foldedSetIterable iter X.env x = pure x := by intro _; rfl) :
    PDS X (.Assign [.Name y py] (.ListComp elt [⟨tg, iter, ifs, 0⟩] scope pos) spos) (dSet i (dLc fin ι t θ τ (own.map (·.2)))) := psI (ps_setLc hc hN hy hyl hsw hi ok hg ht he hs) fun D σ H hq => by
  obtain ⟨F, M, es, D', hs, he, ht, hf⟩ := hq
  exact lift_lc hfin hv ⟨F, M, es, _, hs, he, ht, fun M1 s F1 H1 v p1 e1 hs1 r1 => hf.nx _ _ F1 _ H1 p1 e1 hs1 (env_set i (he.mono e1) r1)⟩

/-! ### calls -/
abbrev DF := MHp → List Sl → DP → Prop
def spD (K : PySem.W.Frag) (φ : DF) : Sp := fun vs H Q _ => ∃ F M ss post, Hs K F M H ∧ SlsR K F vs ss ∧ φ M ss post ∧ Fol K F post Q
def dCall (φ : DF) (α : DA) : DT := fun M es post => α M es fun M1 ss => φ M1 ss post
theorem pd_call {k : Nat} {f : Addr} {fd : FuncData} {ps : List Str} {φ : DF} {x : Str} {p : Pos} {e : Expr} {es : List Expr} {α : DA} (G : FnOk X.prog X.w X.K X.mg X.base CX0 k f fd ps (spD X.K φ)) (hr : Room k X.A) (hg : Gl X x) (hm : X.mg x = some (.ref f)) (hk : PySem.W.keepIn X.K (.ref f) = true) (hb : Binds X.K fd ps [])
    (ha : PDA X (e :: es) α) (hd : (x == ("__debug__" : Str)) = false := by decide) (he : starEach (e :: es) X.env = (false, eval e X.env) :: starEach es X.env := by rfl) (hpl : (backTo pos (starEach es X.env)).any (·.1) = false := by rfl) : PD X (.Call (.Name x p) (e :: es) [] pos) (dCall φ α) :=
  peI (pe_call G hr hg hm hk hb .nil pass0 ha (hdb := hd) (he := he) (hpl := hpl)) fun σ H Q hq => by
  obtain ⟨F, M, es, post, hs, he, ht, hf⟩ := hq
  refine ⟨F, M, es, _, hs, he, ht, fun M1 ss F1 H1 vs p1 e1 hs1 r1 => ?_⟩
  show spD X.K φ (vs ++ []) H1 Q E0
  rw [List.append_nil]
  exact ⟨F1, M1, ss, post, hs1, r1, p1, hf.mono e1⟩
abbrev DB := List Sl → MHp → DP → Prop
def SndC (K : PySem.W.Frag) (r : List V → Hp → VK → Prop) (ρ : DB) : Prop := ∀ F M H vs ss post Q, Hs K F M H → SlsR K F vs ss → ρ ss M post → Fol K F post Q → r vs H Q
def dCB (ρ : DB) (α : DA) : DT := fun M es post => α M es fun M1 ss => ρ ss M1 post
theorem lift_cb {K : PySem.W.Frag} {r : List V → Hp → VK → Prop} {ρ : DB} {α : DA} (h : SndC K r ρ) {σ : L2.St} {H : Hp} {Q : VK} (hq : lift K (dCB ρ α) σ H Q) : tCB r (liftA K α) σ H Q := by
  obtain ⟨F, M, es, post, hs, he, ht, hf⟩ := hq
  exact ⟨F, M, es, _, hs, he, ht, fun M1 ss F1 H1 vs p1 e1 hs1 r1 => h F1 M1 H1 vs ss post Q hs1 r1 p1 (hf.mono e1)⟩
theorem pd_callB {id : String} {r : List V → Hp → VK → Prop} {ρ : DB} {x : Str} {p : Pos} {e : Expr} {es : List Expr} {α : DA} (hc : CallR X (.builtin id) r) (h : SndC X.K r ρ) (hg : Gl X x) (hm : X.mg x = none) (hv : bootBuiltins x = some (.builtin id)) (ha : PDA X (e :: es) α) (hn : x ≠ "__name__" := by decide) (hdb : (x == ("__debug__" : Str)) = false := by decide)
    (he : starEach (e :: es) X.env = (false, eval e X.env) :: starEach es X.env := by rfl) (hpl : (backTo pos (starEach es X.env)).any (·.1) = false := by rfl) : PD X (.Call (.Name x p) (e :: es) [] pos) (dCB ρ α) := peI (pe_callB hc hg hm hv ha hn hdb he hpl) fun _ _ _ hq => lift_cb h hq
theorem pd_callTy {T : String} {r : List V → Hp → VK → Prop} {ρ : DB} {x : Str} {p : Pos} {e : Expr} {es : List Expr} {α : DA} (hc : CallR X (.type T) r) (h : SndC X.K r ρ) (hg : Gl X x) (hm : X.mg x = none) (hv : bootBuiltins x = some (.type T)) (ha : PDA X (e :: es) α) (hn : x ≠ "__name__" := by decide) (hdb : (x == ("__debug__" : Str)) = false := by decide)
    (he : starEach (e :: es) X.env = (false, eval e X.env) :: starEach es X.env := by rfl) (hpl : (backTo pos (starEach es X.env)).any (·.1) = false := by rfl) : PD X (.Call (.Name x p) (e :: es) [] pos) (dCB ρ α) := peI (pe_callTy hc hg hm hv ha hn hdb he hpl) fun _ _ _ hq => lift_cb h hq

/-! ### built-in functions -/
def ρLen : DB := fun ss M post => match ss with
  | [.d (.list ds)] => post M (.d (.int ds.length))
  | [.d (.tuple ds)] => post M (.d (.int ds.length))
  | [.d (.str z)] => z.length ≤ sizeLine ∧ post M (.d (.int z.length))
  | [.s ns] => post M (.d (.int ns.length))
  | [.m a] => ∃ ss, M a = some (.lst ss) ∧ post M (.d (.int ss.length))
  | [.t ss] => post M (.d (.int ss.length))
  | _ => False
theorem snd_len {K : PySem.W.Frag} : SndC K (fun xs H Q => ∃ x n, xs = [x] ∧ LenV K x H n ∧ Q (.int n) H) ρLen := by
  intro F M H vs ss post Q hs r0 h hf
  unfold ρLen at h
  split at h
  · obtain ⟨v, rfl, r⟩ := sls1 r0
    obtain ⟨p, us, rfl, h1, h2⟩ := dq_lst r
    exact ⟨_, _, rfl, .inl ⟨us, SqL.of (hs.ex _ _ h1), h2.length.symm⟩, hf.dat hs (.int _) h⟩
  · obtain ⟨v, rfl, r⟩ := sls1 r0
    obtain ⟨p, us, rfl, h1, h2⟩ := dq_tup r
    exact ⟨_, _, rfl, .inr ⟨us, SqT.of (hs.ex _ _ h1), h2.length.symm⟩, hf.dat hs (.int _) h⟩
  · obtain ⟨v, rfl, r⟩ := sls1 r0
    rw [dq_str r]
    exact ⟨_, _, rfl, ⟨h.1, rfl⟩, hf.dat hs (.int _) h.2⟩
  · obtain ⟨v, rfl, r⟩ := sls1 r0
    obtain ⟨a, rfl, h1⟩ := r
    exact ⟨_, _, rfl, .inl ⟨_, sq_same hs.ex h1, (List.length_map _).symm⟩, hf.dat hs (.int _) h⟩
  · obtain ⟨v, rfl, r⟩ := sls1 r0
    obtain ⟨ss, hM, hp⟩ := h
    obtain ⟨us, h1, h2⟩ := hs.lst hM
    rw [show v = .ref _ from r]
    exact ⟨_, _, rfl, .inl ⟨us, SqL.of h1, (Paired.len' h2).symm⟩, hf.dat hs (.int _) hp⟩
  · obtain ⟨v, rfl, r⟩ := sls1 r0
    obtain ⟨a, us, rfl, h1, h2⟩ := r
    exact ⟨_, _, rfl, .inr ⟨us, SqT.of (hs.ex _ _ h1), (Paired.len' (tta_sls h2)).symm⟩, hf.dat hs (.int _) h⟩
  · exact h.elim
theorem pd_len {p : Pos} {e : Expr} {α : DA} (hg : Gl X "len") (hm : X.mg "len" = none) (ha : PDA X [e] α) (he : starEach [e] X.env = (false, eval e X.env) :: starEach [] X.env := by rfl) : PD X (.Call (.Name "len" p) [e] [] pos) (dCB ρLen α) := pd_callB call_len snd_len hg hm PySem.boot_len ha (he := he)
/-- the greatest | the least of two ints, of a list of ints -/
def ρMax : DB := fun ss M post => match ss with
  | [.d (.int i), .d (.int j)] => post M (.d (.int (if j > i then j else i)))
  | [s] => ∃ ns : List Int, LstOf M s (ns.map PyData.int) ∧ 0 < ns.length ∧ ∀ m, m ∈ ns → (∀ y, y ∈ ns → y ≤ m) → post M (.d (.int m))
  | _ => False
def ρMin : DB := fun ss M post => match ss with
  | [.d (.int i), .d (.int j)] => post M (.d (.int (if j < i then j else i)))
  | [s] => ∃ ns : List Int, LstOf M s (ns.map PyData.int) ∧ 0 < ns.length ∧ ∀ m, m ∈ ns → (∀ y, y ∈ ns → m ≤ y) → post M (.d (.int m))
  | _ => False
theorem dqa_int {F : Hp} : ∀ {vs : List V} {ns : List Int}, DqA F vs (ns.map PyData.int) → vs = ns.map V.int
  | _, [], .nil => rfl
  | _, _ :: _, .cons h r => by rw [dq_int h, dqa_int r]; rfl
theorem dqa_bl {F : Hp} : ∀ {vs : List V} {ns : List Bool}, DqA F vs (ns.map PyData.bool) → vs = ns.map V.bl
  | _, [], .nil => rfl
  | _, _ :: _, .cons h r => by rw [dq_bl h, dqa_bl r]; rfl
theorem dqa_str {F : Hp} : ∀ {vs : List V} {ns : List Str}, DqA F vs (ns.map PyData.str) → vs = ns.map V.str
  | _, [], .nil => rfl
  | _, _ :: _, .cons h r => by rw [dq_str h, dqa_str r]; rfl
theorem dqa_strs {F : Hp} : ∀ ns : List Str, DqA F (ns.map V.str) (ns.map PyData.str)
  | [] => .nil
  | _ :: r => .cons (.str _) (dqa_strs r)
theorem snd_max {K : PySem.W.Frag} : SndC K (fun xs H Q => (∃ i j, xs = [.int i, .int j] ∧ Q (.int (if j > i then j else i)) H) ∨ rMax K xs H Q) ρMax := by
  intro F M H vs ss post Q hs r0 h hf
  unfold ρMax at h
  split at h
  · obtain ⟨v, w, rfl, r, r'⟩ := sls2 r0
    rw [dq_int r, dq_int r']
    exact .inl ⟨_, _, rfl, hf.dat hs (.int _) h⟩
  · obtain ⟨v, rfl, r⟩ := sls1 r0
    obtain ⟨ns, h1, h2, h3⟩ := h
    obtain ⟨a, us, rfl, h4, h5⟩ := h1.at hs r
    rw [dqa_int h5] at h4
    exact .inr ⟨a, ns, rfl, SqL.of h4, h2, fun m hm hy => hf.dat hs (.int _) (h3 m hm hy)⟩
  · exact h.elim
theorem snd_min {K : PySem.W.Frag} : SndC K (fun xs H Q => (∃ i j, xs = [.int i, .int j] ∧ Q (.int (if j < i then j else i)) H) ∨ rMin K xs H Q) ρMin := by
  intro F M H vs ss post Q hs r0 h hf
  unfold ρMin at h
  split at h
  · obtain ⟨v, w, rfl, r, r'⟩ := sls2 r0
    rw [dq_int r, dq_int r']
    exact .inl ⟨_, _, rfl, hf.dat hs (.int _) h⟩
  · obtain ⟨v, rfl, r⟩ := sls1 r0
    obtain ⟨ns, h1, h2, h3⟩ := h
    obtain ⟨a, us, rfl, h4, h5⟩ := h1.at hs r
    rw [dqa_int h5] at h4
    exact .inr ⟨a, ns, rfl, SqL.of h4, h2, fun m hm hy => hf.dat hs (.int _) (h3 m hm hy)⟩
  · exact h.elim
theorem pd_max {p : Pos} {e : Expr} {es : List Expr} {α : DA} (hc : X.calm = true) (hg : Gl X "max") (hm : X.mg "max" = none) (ha : PDA X (e :: es) α) (he : starEach (e :: es) X.env = (false, eval e X.env) :: starEach es X.env := by rfl) (hpl : (backTo pos (starEach es X.env)).any (·.1) = false := by rfl) : PD X (.Call (.Name "max" p) (e :: es) [] pos) (dCB ρMax α) := pd_callB (CallR.or (call_max2 hc) (cr_max hc)) snd_max hg hm (by decide +kernel) ha (he := he) (hpl := hpl)
theorem pd_min {p : Pos} {e : Expr} {es : List Expr} {α : DA} (hc : X.calm = true) (hg : Gl X "min") (hm : X.mg "min" = none) (ha : PDA X (e :: es) α) (he : starEach (e :: es) X.env = (false, eval e X.env) :: starEach es X.env := by rfl) (hpl : (backTo pos (starEach es X.env)).any (·.1) = false := by rfl) : PD X (.Call (.Name "min" p) (e :: es) [] pos) (dCB ρMin α) := pd_callB (CallR.or (call_min2 hc) (cr_min hc)) snd_min hg hm (by decide +kernel) ha (he := he) (hpl := hpl)
/-- all(..), any(..) of a list of bools; sum of ints -/
def ρAll : DB := fun ss M post => ∃ (s : Sl) (bs : List Bool), ss = [s] ∧ LstOf M s (bs.map PyData.bool) ∧ post M (.d (.bool (bs.all id)))
def ρAny : DB := fun ss M post => ∃ (s : Sl) (bs : List Bool), ss = [s] ∧ LstOf M s (bs.map PyData.bool) ∧ post M (.d (.bool (bs.any id)))
def ρSum : DB := fun ss M post => ∃ (s : Sl) (ns : List Int), ss = [s] ∧ LsOf M s (ns.map PyData.int) ∧ post M (.d (.int ns.sum))
theorem snd_all {K : PySem.W.Frag} : SndC K (rAll K) ρAll := by
  intro F M H vs ss post Q hs r0 h hf
  obtain ⟨s, bs, rfl, h1, hp⟩ := h
  obtain ⟨v, rfl, r⟩ := sls1 r0
  obtain ⟨a, us, rfl, h4, h5⟩ := h1.at hs r
  rw [dqa_bl h5] at h4
  exact ⟨a, bs, rfl, SqL.of h4, hf.dat hs (.bl _) hp⟩
theorem snd_any {K : PySem.W.Frag} : SndC K (rAny K) ρAny := by
  intro F M H vs ss post Q hs r0 h hf
  obtain ⟨s, bs, rfl, h1, hp⟩ := h
  obtain ⟨v, rfl, r⟩ := sls1 r0
  obtain ⟨a, us, rfl, h4, h5⟩ := h1.at hs r
  rw [dqa_bl h5] at h4
  exact ⟨a, bs, rfl, SqL.of h4, hf.dat hs (.bl _) hp⟩
theorem snd_sum {K : PySem.W.Frag} : SndC K (rSum K) ρSum := by
  intro F M H vs ss post Q hs r0 h hf
  obtain ⟨s, ns, rfl, h1, hp⟩ := h
  obtain ⟨v, rfl, r⟩ := sls1 r0
  rcases h1 with h1 | ⟨ms, rfl, e⟩
  · obtain ⟨a, us, rfl, h4, h5⟩ := h1.at hs r
    rw [dqa_int h5] at h4
    exact ⟨a, ns, rfl, SqL.of h4, hf.dat hs (.int _) hp⟩
  · obtain ⟨a, rfl, h1⟩ := r
    have e : ms = ns := by
      have : ∀ (l m : List Int), l.map PyData.int = m.map PyData.int → m = l := fun l => by
        induction l with
        | nil => intro m h; cases m with | nil => rfl | cons _ _ => cases h
        | cons x l ih =>
          intro m h
          cases m with
          | nil => cases h
          | cons y m =>
            rw [List.map_cons, List.map_cons] at h
            injection h with h1 h2
            injection h1 with h1
            rw [h1, ih m h2]
      exact this _ _ e
    subst e
    exact ⟨a, ms, rfl, sq_same hs.ex h1, hf.dat hs (.int _) hp⟩
theorem pd_all {p : Pos} {e : Expr} {α : DA} (hc : X.calm = true) (hg : Gl X "all") (hm : X.mg "all" = none) (ha : PDA X [e] α) (he : starEach [e] X.env = (false, eval e X.env) :: starEach [] X.env := by rfl) : PD X (.Call (.Name "all" p) [e] [] pos) (dCB ρAll α) := pd_callB (cr_all hc) snd_all hg hm (by decide +kernel) ha (he := he)
theorem pd_any {p : Pos} {e : Expr} {α : DA} (hc : X.calm = true) (hg : Gl X "any") (hm : X.mg "any" = none) (ha : PDA X [e] α) (he : starEach [e] X.env = (false, eval e X.env) :: starEach [] X.env := by rfl) : PD X (.Call (.Name "any" p) [e] [] pos) (dCB ρAny α) := pd_callB (cr_any hc) snd_any hg hm (by decide +kernel) ha (he := he)
theorem pd_sum {p : Pos} {e : Expr} {α : DA} (hc : X.calm = true) (hg : Gl X "sum") (hm : X.mg "sum" = none) (ha : PDA X [e] α) (he : starEach [e] X.env = (false, eval e X.env) :: starEach [] X.env := by rfl) : PD X (.Call (.Name "sum" p) [e] [] pos) (dCB ρSum α) := pd_callB (cr_sum hc) snd_sum hg hm (by decide +kernel) ha (he := he)
/-- int(b), int(i) -/
def ρInt : DB := fun ss M post => match ss with
  | [.d (.int i)] => post M (.d (.int i))
  | [.d (.bool k)] => post M (.d (.int (if k then 1 else 0)))
  | [.d (.str a)] => ∃ n, PySem.intText? a = some n ∧ a.length ≤ 640 ∧ post M (.d (.int n))
  | _ => False
theorem snd_int {K : PySem.W.Frag} : SndC K (fun xs H Q => ((∃ i, xs = [.int i] ∧ Q (.int i) H) ∨ ∃ k, xs = [.bl k] ∧ Q (.int (if k then 1 else 0)) H) ∨ ∃ a n, xs = [.str a] ∧ PySem.intText? a = some n ∧ a.length ≤ 640 ∧ Q (.int n) H) ρInt := by
  intro F M H vs ss post Q hs r0 h hf
  unfold ρInt at h
  split at h
  · obtain ⟨v, rfl, r⟩ := sls1 r0; rw [dq_int r]; exact .inl (.inl ⟨_, rfl, hf.dat hs (.int _) h⟩)
  · obtain ⟨v, rfl, r⟩ := sls1 r0; rw [dq_bl r]; exact .inl (.inr ⟨_, rfl, hf.dat hs (.int _) h⟩)
  · obtain ⟨v, rfl, r⟩ := sls1 r0; rw [dq_str r]; obtain ⟨n, h1, h2, h3⟩ := h; exact .inr ⟨_, n, rfl, h1, h2, hf.dat hs (.int _) h3⟩
  · exact h.elim
theorem pd_intc {p : Pos} {e : Expr} {α : DA} (hg : Gl X "int") (hm : X.mg "int" = none) (ha : PDA X [e] α) (he : starEach [e] X.env = (false, eval e X.env) :: starEach [] X.env := by rfl) : PD X (.Call (.Name "int" p) [e] [] pos) (dCB ρInt α) := pd_callTy (CallR.or call_int1 call_int_str) snd_int hg hm (by decide +kernel) ha (he := he)
/-- list(xs), tuple(xs) of data -/
def ρList (fin : Bool) : DB := fun ss M post => ∃ s ds, ss = [s] ∧ (LsOf M s ds ∨ s = .d (.tuple ds)) ∧ if fin = true then ∀ p, M p = none → post (mput M p (.lst (ds.map Sl.d))) (.m p) else post M (.d (.list ds))
theorem LsOf.at {K : PySem.W.Frag} {F : Hp} {M : MHp} {H : Hp} {s : Sl} {v : V} {ds : List PyData} (h : LsOf M s ds) (hs : Hs K F M H) (r : SlR K F v s) : ∃ a vs, v = .ref a ∧ SqL K H a vs ∧ DqA F vs ds := by
  rcases h with h | ⟨ns, rfl, rfl⟩
  · obtain ⟨a, vs, h1, h2, h3⟩ := h.at hs r; exact ⟨a, vs, h1, SqL.of h2, h3⟩
  · obtain ⟨a, h1, h2⟩ := r; exact ⟨a, _, h1, sq_same hs.ex h2, dqa_ints _⟩
theorem snd_list {K : PySem.W.Frag} {fin : Bool} : SndC K (fun xs H Q => ∃ p ys, xs = [.ref p] ∧ (SqL K H p ys ∨ SqT K H p ys) ∧ ∀ l, H l = none → Q (.ref l) (upd H l (.lst ys))) (ρList fin) := by
  intro F M H vs ss post Q hs r0 h hf
  obtain ⟨s, ds, rfl, h1, hp⟩ := h
  obtain ⟨v, rfl, r⟩ := sls1 r0
  have key : ∃ a us, v = .ref a ∧ (SqL K H a us ∨ SqT K H a us) ∧ DqA F us ds := by
    rcases h1 with h1 | rfl
    · obtain ⟨a, us, h2, h3, h4⟩ := h1.at hs r; exact ⟨a, us, h2, .inl h3, h4⟩
    · obtain ⟨a, us, h2, h3, h4⟩ := dq_tup r; exact ⟨a, us, h2, .inr (SqT.of (hs.ex _ _ h3)), h4⟩
  obtain ⟨a, us, rfl, h2, h3⟩ := key
  refine ⟨a, us, rfl, h2, ?_⟩
  cases fin with
  | true => rw [if_pos rfl] at hp; exact hf.newML hs (data_sls h3) hp
  | false => rw [if_neg Bool.false_ne_true] at hp; exact hf.newL hs h3 hp
theorem pd_list {fin : Bool} {p : Pos} {e : Expr} {α : DA} (hg : Gl X "list") (hm : X.mg "list" = none) (ha : PDA X [e] α) (he : starEach [e] X.env = (false, eval e X.env) :: starEach [] X.env := by rfl) : PD X (.Call (.Name "list" p) [e] [] pos) (dCB (ρList fin) α) := pd_callTy call_list_of snd_list hg hm (by decide +kernel) ha (he := he)
end
end DL
set_option Elab.async false
set_option autoImplicit false
set_option linter.all false
set_option maxRecDepth 100000
set_option maxHeartbeats 2000000
namespace DL
open PySem PySem.Spec PyProof.Rows L2

/-! ### dicts -/
section
variable {κ β : Type} [DecidableEq κ]
def gVal (kvs : List (κ × β)) (k : κ) : Option β := (kvs.find? fun kv => decide (kv.1 = k)).map (·.2)
def gPut (kvs : List (κ × β)) (k : κ) (v : β) : List (κ × β) :=
  if (kvs.any fun kv => decide (kv.1 = k)) = true then kvs.map (fun kv => if kv.1 = k then (kv.1, v) else kv) else kvs ++ [(k, v)]
end
section
variable {κ : Type} [DecidableEq κ]
def KS (K : PySem.W.Frag) (F : Hp) : List (κ × V) → List (κ × Sl) → Prop := Paired fun (p : κ × V) (q : κ × Sl) => p.1 = q.1 ∧ SlR K F p.2 q.2
theorem ks_val {K : PySem.W.Frag} {F : Hp} {k : κ} : ∀ {kws : List (κ × V)} {kvs : List (κ × Sl)}, KS K F kws kvs → (∀ s, gVal kvs k = some s → ∃ v, valV kws k = some v ∧ SlR K F v s) ∧ (gVal kvs k = none → valV kws k = none)
  | _, _, .nil => ⟨fun s h => by simp [gVal] at h, fun _ => rfl⟩
  | (k1, v1) :: kws, (k2, s2) :: kvs, .cons h r => by
    obtain ⟨h1, h2⟩ := h
    have h1 : k1 = k2 := h1
    subst h1
    obtain ⟨i1, i2⟩ := ks_val (k := k) r
    by_cases e : k1 = k
    · have e1 : gVal ((k1, s2) :: kvs) k = some s2 := by simp [gVal, List.find?_cons, e]
      have e2 : valV ((k1, v1) :: kws) k = some v1 := valV_pos e
      rw [e1, e2]
      exact ⟨fun s h => ⟨v1, rfl, by cases h; exact h2⟩, fun h => by cases h⟩
    · have e1 : gVal ((k1, s2) :: kvs) k = gVal kvs k := by simp [gVal, List.find?_cons, e]
      have e2 : valV ((k1, v1) :: kws) k = valV kws k := valV_neg e
      rw [e1, e2]
      exact ⟨i1, i2⟩
theorem ks_any {K : PySem.W.Frag} {F : Hp} {k : κ} : ∀ {kws : List (κ × V)} {kvs : List (κ × Sl)}, KS K F kws kvs → (kws.any fun kv => decide (kv.1 = k)) = (kvs.any fun kv => decide (kv.1 = k))
  | _, _, .nil => rfl
  | (k1, v1) :: kws, (k2, s2) :: kvs, .cons h r => by
    have h1 : k1 = k2 := h.1
    subst h1
    rw [List.any_cons, List.any_cons, ks_any r]
theorem ks_map {K : PySem.W.Frag} {F : Hp} {k : κ} {v : V} {s : Sl} (hv : SlR K F v s) : ∀ {kws : List (κ × V)} {kvs : List (κ × Sl)}, KS K F kws kvs → KS K F (kws.map fun kv => if kv.1 = k then (kv.1, v) else kv) (kvs.map fun kv => if kv.1 = k then (kv.1, s) else kv)
  | _, _, .nil => .nil
  | (k1, v1) :: kws, (k2, s2) :: kvs, .cons h r => by
    have h1 : k1 = k2 := h.1
    subst h1
    refine .cons ?_ (ks_map hv r)
    show (if k1 = k then (k1, v) else (k1, v1)).1 = (if k1 = k then (k1, s) else (k1, s2)).1 ∧ SlR K F (if k1 = k then (k1, v) else (k1, v1)).2 (if k1 = k then (k1, s) else (k1, s2)).2
    by_cases e : k1 = k
    · rw [if_pos e, if_pos e]; exact ⟨rfl, hv⟩
    · rw [if_neg e, if_neg e]; exact ⟨rfl, h.2⟩
theorem ks_put {K : PySem.W.Frag} {F : Hp} {k : κ} {v : V} {s : Sl} (hv : SlR K F v s) {kws : List (κ × V)} {kvs : List (κ × Sl)} (h : KS K F kws kvs) : KS K F (putK kws k v) (gPut kvs k s) := by
  unfold putK gPut
  rw [ks_any h]
  split
  · exact ks_map hv h
  · exact Paired.app' h (.cons ⟨rfl, hv⟩ .nil)
end
def keyOf : PyData → Option Key
  | .int i => some (.inl i)
  | .str x => some (.inr x)
  | _ => none
def keysOf : List PyData → Option (List Key)
  | [] => some []
  | d :: ds => match keyOf d, keysOf ds with
    | some k, some ks => some (k :: ks)
    | _, _ => none
theorem key_at {F : Hp} {v : V} {d : PyData} {k : Key} (h : Dq F v d) (e : keyOf d = some k) : v = kV k := by
  cases h <;> simp [keyOf] at e <;> subst e <;> rfl
theorem keys_at {F : Hp} : ∀ {vs : List V} {ds : List PyData} {ks : List Key}, DqA F vs ds → keysOf ds = some ks → vs = ks.map kV
  | _, [], _, .nil, e => by cases e; rfl
  | _, d :: ds, ks, .cons h r, e => by
    unfold keysOf at e
    cases h1 : keyOf d with
    | none => rw [h1] at e; cases e
    | some k =>
      cases h2 : keysOf ds with
      | none => rw [h1, h2] at e; cases e
      | some ks' =>
        rw [h1, h2] at e
        cases e
        rw [key_at h h1, keys_at r h2]
        rfl
/-- the key in a dict at a: what is there -/
def GetS (M : MHp) (a : Addr) (x : PyData) (o : Option Sl) : Prop := match M a with
  | some (.dK kvs) => ∃ k, keyOf x = some k ∧ o = gVal kvs k
  | some (.dT kvs) => match x with
    | .tuple ds => ∃ ks, keysOf ds = some ks ∧ o = gVal kvs ks
    | _ => False
  | some (.lK _ _ kvs) => ∃ k, keyOf x = some k ∧ o = gVal kvs k
  | some (.lT _ _ kvs) => match x with
    | .tuple ds => ∃ ks, keysOf ds = some ks ∧ o = gVal kvs ks
    | _ => False
  | _ => False
theorem GetS.at {K : PySem.W.Frag} {F : Hp} {M : MHp} {H : Hp} {a : Addr} {y : V} {x : PyData} {o : Option Sl} (h : GetS M a x o) (hs : Hs K F M H) (r : Dq F y x) :
    ∃ ov, DGet H a y ov ∧ (∀ s, o = some s → ∃ v, ov = some v ∧ SlR K F v s) ∧ (o = none → ov = none) := by
  unfold GetS at h
  split at h
  · rename_i kvs hM
    obtain ⟨k, hk, rfl⟩ := h
    obtain ⟨kws, h1, h2⟩ := (show ∃ kws, H a = some (.dK kws) ∧ KS K F kws kvs from hs.ok _ _ hM)
    rw [key_at r hk]
    obtain ⟨i1, i2⟩ := ks_val (k := k) h2
    exact ⟨_, DGet.k h1, i1, i2⟩
  · rename_i kvs hM
    split at h
    · rename_i ds
      obtain ⟨ks, hk, rfl⟩ := h
      obtain ⟨kws, h1, h2⟩ := (show ∃ kws, H a = some (.dT kws) ∧ KS K F kws kvs from hs.ok _ _ hM)
      obtain ⟨b, vs, rfl, h3, h4⟩ := dq_tup r
      rw [keys_at h4 hk] at h3
      obtain ⟨i1, i2⟩ := ks_val (k := ks) h2
      exact ⟨_, DGet.t h1 (hs.ex _ _ h3), i1, i2⟩
    · exact h.elim
  · rename_i od kws kvs hM
    obtain ⟨k, hk, rfl⟩ := h
    obtain ⟨h1, h2⟩ := (show H a = some (.frz od (.dK kws)) ∧ KS K F kws kvs from hs.ok _ _ hM)
    rw [key_at r hk]
    obtain ⟨i1, i2⟩ := ks_val (k := k) h2
    exact ⟨_, .inl ⟨kws, k, .inr ⟨od, h1⟩, rfl, rfl⟩, i1, i2⟩
  · rename_i od kws kvs hM
    split at h
    · rename_i ds
      obtain ⟨ks, hk, rfl⟩ := h
      obtain ⟨h1, h2⟩ := (show H a = some (.frz od (.dT kws)) ∧ KS K F kws kvs from hs.ok _ _ hM)
      obtain ⟨b, vs, rfl, h3, h4⟩ := dq_tup r
      rw [keys_at h4 hk] at h3
      obtain ⟨i1, i2⟩ := ks_val (k := ks) h2
      exact ⟨_, .inr ⟨kws, ks, b, .inr ⟨od, h1⟩, rfl, hs.ex _ _ h3, rfl⟩, i1, i2⟩
    · exact h.elim
  · exact h.elim
/-- a[x] = s in a dict -/
def PutS (M : MHp) (a : Addr) (x : PyData) (s : Sl) (k : MHp → Prop) : Prop := match M a with
  | some (.dK kvs) => ∃ key, keyOf x = some key ∧ kvs.length < sizeLine ∧ k (mput M a (.dK (gPut kvs key s)))
  | some (.dT kvs) => match x with
    | .tuple ds => ∃ ks, keysOf ds = some ks ∧ kvs.length < sizeLine ∧ k (mput M a (.dT (gPut kvs ks s)))
    | _ => False
  | _ => False
theorem PutS.at {K : PySem.W.Frag} {F : Hp} {M : MHp} {H : Hp} {a : Addr} {y v : V} {x : PyData} {s : Sl} {k : MHp → Prop} (h : PutS M a x s k) (hs : Hs K F M H) (r : Dq F y x) (rv : SlR K F v s) :
    ∃ H' M', DPut H a y v H' ∧ Hs K F M' H' ∧ k M' := by
  unfold PutS at h
  split at h
  · rename_i kvs hM
    obtain ⟨key, hk, hl, hp⟩ := h
    obtain ⟨kws, h1, h2⟩ := (show ∃ kws, H a = some (.dK kws) ∧ KS K F kws kvs from hs.ok _ _ hM)
    rw [key_at r hk]
    exact ⟨_, _, DPut.k h1 (by rw [Paired.len' h2]; exact hl), hs.set (o := .dK (gPut kvs key s)) hM ⟨_, upd_same, ks_put rv h2⟩, hp⟩
  · rename_i kvs hM
    split at h
    · rename_i ds
      obtain ⟨ks, hk, hl, hp⟩ := h
      obtain ⟨kws, h1, h2⟩ := (show ∃ kws, H a = some (.dT kws) ∧ KS K F kws kvs from hs.ok _ _ hM)
      obtain ⟨b, vs, rfl, h3, h4⟩ := dq_tup r
      rw [keys_at h4 hk] at h3
      exact ⟨_, _, DPut.t h1 (hs.ex _ _ h3) (by rw [Paired.len' h2]; exact hl), hs.set (o := .dT (gPut kvs ks s)) hM ⟨_, upd_same, ks_put rv h2⟩, hp⟩
    · exact h.elim
  · exact h.elim
section
variable {X : Cx} {a b e o i v : Expr} {τ τa τb τo τi τv τx : DT} {pos : Pos}
def rIxDk : R2 := fun x y H Q => ∃ a v, x = .ref a ∧ DGet H a y (some v) ∧ Q v H
theorem ix_dict (hu : X.A.units + 1 < cLine) : IxR X rIxDk := by
  intro value slice pins s σ H x y v u Q I rx ry h hs
  obtain ⟨a, w, rfl, g, q⟩ := h
  obtain rfl : v = .ref a := rx
  exact tail_any (dict_typeIs I g) PySem.F.slot_dict_getitem.lookup (d_getItem hu I g ry fun w' s3 I3 rw' => ⟨w, H, I3, rw', q⟩) hs
/-- x[i] of anything -/
def ρGet : DR2 := fun s1 s2 M post => ρIx s1 s2 M post ∨ ∃ a x s, s1 = .m a ∧ s2 = .d x ∧ GetS M a x (some s) ∧ post M s
theorem snd_get {K : PySem.W.Frag} : Snd K (fun x y H Q => rIx K x y H Q ∨ rIxDk x y H Q) ρGet := by
  intro F M H v1 v2 s1 s2 post Q hs r1 r2 h hf
  rcases h with h | ⟨a, x, s, rfl, rfl, hg, hp⟩
  · exact .inl (snd_ix F M H v1 v2 s1 s2 post Q hs r1 r2 h hf)
  · obtain ⟨ov, h1, h2, _⟩ := hg.at hs r2
    obtain ⟨v, rfl, h3⟩ := h2 s rfl
    exact .inr ⟨a, v, r1, h1, hf.here hs h3 hp⟩
theorem pd_get (hu : X.A.units + 1 < cLine) (ha : PD X a τa) (hb : PD X b τb) (hs : PlainIx b) : PD X (.Subscript a b pos) (dOp ρGet τa τb) := pd_ix (IxR.or ix_seq (ix_dict hu)) snd_get ha hb hs
/-- o[i] = v -/
def ρSet (so si sv : Sl) (M : MHp) (k : MHp → Prop) : Prop := match so, si with
  | .m a, .d x => (∃ ss j l, M a = some (.lst ss) ∧ x = .int j ∧ ixN ss.length j = some l ∧ k (mput M a (.lst (ss.set l sv)))) ∨ PutS M a x sv k
  | _, _ => False
def dSub (τo τi τv : DT) : DS := fun D M es => τv M es fun M1 sv => τo M1 es fun M2 so => τi M2 es fun M3 si => ρSet so si sv M3 fun M4 => D.nx M4 es
theorem set_or {t t' : TSet} (h : PSet X t) (h' : PSet X t') : PSet X fun o i v H Q => t o i v H Q ∨ t' o i v H Q := by
  intro pins s σ H o i v ov iv u Q I ro ri rv q
  rcases q with q | q
  · exact h pins s σ H o i v ov iv u Q I ro ri rv q
  · exact h' pins s σ H o i v ov iv u Q I ro ri rv q
theorem pds_sub {pos' : Pos} (hu : X.A.units + 1 < cLine) (ho : PD X o τo) (hi : PD X i τi) (hv : PD X v τv) (hs : swapsWithSole [.Subscript o i pos'] v pos.line X.env = pure false := by rfl) (hw : swappedStores [.Subscript o i pos'] v X.env = pure none := by rfl) (h1 : (assignEach [.Subscript o i pos'] X.env).map (·.2) = [assign (.Subscript o i pos') X.env] := by rfl)
    (hx : PG X (.Subscript o i pos') (gSub (lift X.K τo) (lift X.K τi) fun o i v H Q => rSetL o i v H Q ∨ rSetD o i v H Q)) :
    PDS X (.Assign [.Subscript o i pos'] v pos) (dSub τo τi τv) := psI (ps_asg hv hx hs hw (h1 := h1)) fun D σ H hq => by
  obtain ⟨F, M, es, D', hs, he, ht, hf⟩ := hq
  refine ⟨F, M, es, _, hs, he, ht, fun M1 sv F1 H1 vv p1 e1 hs1 r1 => ?_⟩
  refine ⟨F1, M1, es, _, hs1, he.mono e1, p1, fun M2 so F2 H2 vo p2 e2 hs2 r2 => ?_⟩
  refine ⟨F2, M2, es, _, hs2, (he.mono e1).mono e2, p2, fun M3 si F3 H3 vi p3 e3 hs3 r3 => ?_⟩
  have rv := (r1.mono e2).mono e3
  have ro := r2.mono e3
  have hf3 := ((hf.mono e1).mono e2).mono e3
  have he3 := ((he.mono e1).mono e2).mono e3
  unfold ρSet at p3
  split at p3
  · rename_i a x
    rcases p3 with ⟨ss, j, l, hM, rfl, hl, hp⟩ | hput
    · obtain ⟨vs, h1, h2⟩ := hs3.lst hM
      refine .inl ⟨a, vs, j, l, ro, dq_int r3, h1, by rw [Paired.len' h2]; exact hl, ?_⟩
      exact hf3.nx _ _ F3 _ _ hp (Same.refl F3) (hs3.set (o := .lst (ss.set l sv)) hM ⟨_, upd_same, Paired.set' rv l h2⟩) he3
    · obtain ⟨H', M', h1, h2, h3⟩ := hput.at hs3 r3 rv
      exact .inr ⟨a, H', ro, h1, hf3.nx _ _ F3 _ _ h3 (Same.refl F3) h2 he3⟩
  · exact p3.elim
/-- d.get(k), d.get(k, x) -/
def dGet1 (τo τi : DT) : DT := fun M es post => τo M es fun M1 so => ∃ a, so = .m a ∧ ((∃ kvs, M1 a = some (.dK kvs)) ∨ ∃ kvs, M1 a = some (.dT kvs)) ∧ τi M1 es fun M2 si => ∃ x ov, si = .d x ∧ GetS M2 a x ov ∧ post M2 (ov.getD (.d .none))
def dGet2 (τo τi τx : DT) : DT := fun M es post => τo M es fun M1 so => ∃ a, so = .m a ∧ ((∃ kvs, M1 a = some (.dK kvs)) ∨ ∃ kvs, M1 a = some (.dT kvs)) ∧ τi M1 es fun M2 si => τx M2 es fun M3 sx => ∃ x ov, si = .d x ∧ GetS M3 a x ov ∧ post M3 (ov.getD sx)
theorem isD_of {K : PySem.W.Frag} {F : Hp} {M : MHp} {H : Hp} {a : Addr} (hs : Hs K F M H) (h : (∃ kvs, M a = some (.dK kvs)) ∨ ∃ kvs, M a = some (.dT kvs)) : IsD H a := by
  rcases h with ⟨kvs, hM⟩ | ⟨kvs, hM⟩
  · obtain ⟨kws, h1, _⟩ := (show ∃ kws, H a = some (.dK kws) ∧ KS K F kws kvs from hs.ok _ _ hM); exact .inl ⟨kws, .inl h1⟩
  · obtain ⟨kws, h1, _⟩ := (show ∃ kws, H a = some (.dT kws) ∧ KS K F kws kvs from hs.ok _ _ hM); exact .inr ⟨kws, .inl h1⟩
theorem pd_dget1 {apos : Pos} (hu : X.A.units + 1 < cLine) (ho : PD X o τo) (hi : PD X i τi) (m : M1 X o "get" apos i pos) : PD X (.Call (.Attribute o "get" apos) [i] [] pos) (dGet1 τo τi) := peI (pe_dget1 hu ho hi m) fun σ H Q hq => by
  obtain ⟨F, M, es, post, hs, he, ht, hf⟩ := hq
  refine ⟨F, M, es, _, hs, he, ht, fun M1 so F1 H1 vo p1 e1 hs1 r1 => ?_⟩
  obtain ⟨a, rfl, hd, p1⟩ := p1
  refine ⟨a, r1, isD_of hs1 hd, F1, M1, es, _, hs1, he.mono e1, p1, fun M2 si F2 H2 vi p2 e2 hs2 r2 => ?_⟩
  obtain ⟨x, ov, rfl, hg, hp⟩ := p2
  obtain ⟨ow, h1, h2, h3⟩ := hg.at hs2 r2
  refine ⟨ow, h1, ?_⟩
  have hf2 := (hf.mono e1).mono e2
  cases ov with
  | none => rw [h3 rfl]; exact hf2.dat hs2 .non hp
  | some s => obtain ⟨w, rfl, hw⟩ := h2 s rfl; exact hf2.here hs2 hw hp
theorem pd_dget2 {f : Expr} {apos : Pos} (hu : X.A.units + 1 < cLine) (ho : PD X o τo) (hi : PD X i τi) (hx : PD X f τx) (m : M2 X o "get" apos i f pos) : PD X (.Call (.Attribute o "get" apos) [i, f] [] pos) (dGet2 τo τi τx) := peI (pe_dget2 hu ho hi hx m) fun σ H Q hq => by
  obtain ⟨F, M, es, post, hs, he, ht, hf⟩ := hq
  refine ⟨F, M, es, _, hs, he, ht, fun M1 so F1 H1 vo p1 e1 hs1 r1 => ?_⟩
  obtain ⟨a, rfl, hd, p1⟩ := p1
  refine ⟨a, r1, isD_of hs1 hd, F1, M1, es, _, hs1, he.mono e1, p1, fun M2 si F2 H2 vi p2 e2 hs2 r2 => ?_⟩
  refine ⟨F2, M2, es, _, hs2, (he.mono e1).mono e2, p2, fun M3 sx F3 H3 vx p3 e3 hs3 r3 => ?_⟩
  obtain ⟨x, ov, rfl, hg, hp⟩ := p3
  obtain ⟨ow, h1, h2, h3⟩ := hg.at hs3 (r2.mono e3)
  refine ⟨ow, h1, ?_⟩
  have hf3 := ((hf.mono e1).mono e2).mono e3
  cases ov with
  | none => rw [h3 rfl]; exact hf3.here hs3 r3 hp
  | some s => obtain ⟨w, rfl, hw⟩ := h2 s rfl; exact hf3.here hs3 hw hp
/-- {} -/
def dNewK : DT := fun M _ post => ∀ p, M p = none → post (mput M p (.dK [])) (.m p)
def dNewT : DT := fun M _ post => ∀ p, M p = none → post (mput M p (.dT [])) (.m p)
theorem pd_newK : PD X (.Dict [] [] pos) dNewK := peI pe_dnewK fun σ H Q hq => by
  obtain ⟨F, M, es, post, hs, he, ht, hf⟩ := hq
  exact fun p np => hf _ _ F _ _ (ht p (hs.freeM np)) (Same.refl F) (hs.newM (o := .dK []) np ⟨[], upd_same, .nil⟩) rfl
theorem pd_newT : PD X (.Dict [] [] pos) dNewT := peI pe_dnewT fun σ H Q hq => by
  obtain ⟨F, M, es, post, hs, he, ht, hf⟩ := hq
  exact fun p np => hf _ _ F _ _ (ht p (hs.freeM np)) (Same.refl F) (hs.newM (o := .dT []) np ⟨[], upd_same, .nil⟩) rfl
/-- {k: v, ..}: text or int keys -/
abbrev DPs := List (DT × DT)
def dPairs : DPs → MHp → List Sl → (MHp → List (Sl × Sl) → Prop) → Prop
  | [], M, _, post => post M []
  | (τk, τv) :: r, M, es, post => τk M es fun M1 sk => τv M1 es fun M2 sv => dPairs r M2 es fun M3 ps => post M3 ((sk, sv) :: ps)
def gMerge {κ β : Type} [DecidableEq κ] (kvs more : List (κ × β)) : List (κ × β) := more.foldl (fun acc kv => gPut acc kv.1 kv.2) kvs
def dDisp (ps : DPs) : DT := fun M es post => ∀ p, M p = none → dPairs ps (mput M p (.dK [])) es fun M2 qs => M2 p = some (.dK []) ∧ ∃ kvs : List (Key × Sl), Paired (fun q kv => (∃ x, q.1 = Sl.d x ∧ keyOf x = some kv.1) ∧ q.2 = kv.2) qs kvs ∧ kvs.length ≤ 15 ∧ post (mput M2 p (.dK (gMerge [] kvs))) (.m p)
theorem ks_merge {K : PySem.W.Frag} {F : Hp} : ∀ {more : List (Key × V)} {mores : List (Key × Sl)} {kws : List (Key × V)} {kvs : List (Key × Sl)}, KS K F more mores → KS K F kws kvs → KS K F (mergeK kws more) (gMerge kvs mores)
  | _, _, _, _, .nil, h => h
  | (k1, v1) :: more, (k2, s2) :: mores, kws, kvs, .cons h r, hk => by
    have h1 : k1 = k2 := h.1
    subst h1
    exact ks_merge (kws := putK kws k1 v1) (kvs := gPut kvs k1 s2) r (ks_put h.2 hk)
theorem lift_pairs {K : PySem.W.Frag} : ∀ {ps : DPs} {σ : L2.St} {H F : Hp} {M : MHp} {es : List Sl} {post : MHp → List (Sl × Sl) → Prop} {Q : List (V × V) → Hp → Prop}, Hs K F M H → Env K F σ es → dPairs ps M es post →
    (∀ M' qs F' H' vs, post M' qs → Same F F' → Hs K F' M' H' → Paired (fun (p : V × V) (q : Sl × Sl) => SlR K F' p.1 q.1 ∧ SlR K F' p.2 q.2) vs qs → Q vs H') → tPairs (ps.map fun p => (lift K p.1, lift K p.2)) σ H Q
  | [], σ, H, F, M, es, post, Q, hs, he, ht, hf => hf _ _ F H [] ht (Same.refl F) hs .nil
  | (τk, τv) :: r, σ, H, F, M, es, post, Q, hs, he, ht, hf => by
    refine ⟨F, M, es, _, hs, he, ht, fun M1 sk F1 H1 vk p1 e1 hs1 r1 => ?_⟩
    refine ⟨F1, M1, es, _, hs1, he.mono e1, p1, fun M2 sv F2 H2 vv p2 e2 hs2 r2 => ?_⟩
    exact lift_pairs hs2 ((he.mono e1).mono e2) p2 fun M3 qs F3 H3 vs p3 e3 hs3 r3 => hf _ _ F3 H3 _ p3 ((e1.trans e2).trans e3) hs3 (.cons ⟨(r1.mono e2).mono e3, r2.mono e3⟩ r3)
theorem disp_keys {K : PySem.W.Frag} {F : Hp} : ∀ {vs : List (V × V)} {qs : List (Sl × Sl)} {kvs : List (Key × Sl)}, Paired (fun (p : V × V) (q : Sl × Sl) => SlR K F p.1 q.1 ∧ SlR K F p.2 q.2) vs qs → Paired (fun q kv => (∃ x, q.1 = Sl.d x ∧ keyOf x = some kv.1) ∧ q.2 = kv.2) qs kvs →
    ∃ kws : List (Key × V), vs = kws.map (fun kv => (kV kv.1, kv.2)) ∧ KS K F kws kvs
  | _, _, _, .nil, .nil => ⟨[], rfl, .nil⟩
  | (v1, v2) :: vs, (s1, s2) :: qs, (k, s) :: kvs, .cons h r, .cons h' r' => by
    obtain ⟨kws, e, hk⟩ := disp_keys r r'
    obtain ⟨⟨x, e1, e2⟩, e3⟩ := h'
    have e1 : s1 = .d x := e1
    have e3 : s2 = s := e3
    subst e1 e3
    refine ⟨(k, v2) :: kws, ?_, .cons ⟨rfl, h.2⟩ hk⟩
    have hk1 : v1 = kV k := key_at h.1 e2
    rw [e, List.map_cons, hk1]
theorem pd_disp {keys : List (Option Expr)} {values : List Expr} {ps : DPs} (h : PPs X pos keys values (ps.map fun p => (lift X.K p.1, lift X.K p.2))) (hall : keys.all (·.isSome) = true) (hl : keys.length = values.length) (h0 : keys ≠ []) (h15 : keys.length ≤ 15) : PD X (.Dict keys values pos) (dDisp ps) := peI (pe_disp h hall hl h0 h15) fun σ H Q hq => by
  obtain ⟨F, M, es, post, hs, he, ht, hf⟩ := hq
  intro p np
  refine lift_pairs (hs.newM (o := .dK []) np ⟨[], upd_same, .nil⟩) he (ht p (hs.freeM np)) fun M2 qs F2 H2 vs p2 e2 hs2 r2 => ?_
  obtain ⟨hM, kvs, hk, hl, hp⟩ := p2
  obtain ⟨kws, rfl, hks⟩ := disp_keys r2 hk
  obtain ⟨kw0, h1, h2⟩ := (show ∃ kws, H2 p = some (.dK kws) ∧ KS X.K F2 kws [] from hs2.ok _ _ hM)
  cases h2
  exact ⟨h1, kws, rfl, by rw [Paired.len' hks]; exact hl, hf _ _ F2 _ _ hp e2 (hs2.set (o := .dK (gMerge [] kvs)) hM ⟨_, upd_same, ks_merge hks .nil⟩) rfl⟩

/-! ### methods of built-in types -/
def TyS (T : String) (M : MHp) (s : Sl) : Prop := match s with
  | .d (.str _) => T = "str"
  | .d (.int _) => T = "int"
  | .d (.list _) => T = "list"
  | .s _ => T = "list"
  | .m a => (T = "list" ∧ ∃ ss, M a = some (.lst ss)) ∨ (T = "dict" ∧ ((∃ ss, M a = some (.dK ss)) ∨ ∃ ss, M a = some (.dT ss)))
  | _ => False
theorem TyS.at {K : PySem.W.Frag} {F : Hp} {M : MHp} {H : Hp} {T : String} {s : Sl} {v : V} (h : TyS T M s) (hs : Hs K F M H) (r : SlR K F v s) : tyV K T v H := by
  unfold TyS at h
  split at h
  · rw [dq_str r]; exact h
  · rw [dq_int r]; exact h
  · obtain ⟨a, vs, rfl, h1, h2⟩ := dq_lst r; exact .inl ⟨h, vs, SqL.of (hs.ex _ _ h1)⟩
  · obtain ⟨a, rfl, h1⟩ := r; exact .inl ⟨h, _, sq_same hs.ex h1⟩
  · rename_i a
    have r : v = .ref a := r
    subst r
    rcases h with ⟨h, ss, hM⟩ | ⟨h, ⟨ss, hM⟩ | ⟨ss, hM⟩⟩
    · obtain ⟨vs, h1, _⟩ := hs.lst hM; exact .inl ⟨h, vs, SqL.of h1⟩
    · obtain ⟨kws, h1, _⟩ := (show ∃ kws, H a = some (.dK kws) ∧ KS K F kws ss from hs.ok _ _ hM); exact .inr (.inr (.inl ⟨h, .inl ⟨kws, h1⟩⟩))
    · obtain ⟨kws, h1, _⟩ := (show ∃ kws, H a = some (.dT kws) ∧ KS K F kws ss from hs.ok _ _ hM); exact .inr (.inr (.inl ⟨h, .inr ⟨kws, h1⟩⟩))
  · exact h.elim
abbrev DM := Sl → List Sl → MHp → DP → Prop
def SndM (K : PySem.W.Frag) (r : V → List V → Hp → VK → Prop) (ρ : DM) : Prop := ∀ F M H v s vs ss post Q, Hs K F M H → SlR K F v s → SlsR K F vs ss → ρ s ss M post → Fol K F post Q → r v vs H Q
def dBM0 (T : String) (ρ : DM) (τo : DT) : DT := fun M es post => τo M es fun M1 s => TyS T M1 s ∧ ρ s [] M1 post
def dBM (T : String) (ρ : DM) (τo : DT) (α : DA) : DT := fun M es post => τo M es fun M1 s => TyS T M1 s ∧ α M1 es fun M2 ss => ρ s ss M2 post
theorem lift_bm0 {K : PySem.W.Frag} {T : String} {r : V → List V → Hp → VK → Prop} {ρ : DM} (h : SndM K r ρ) {σ : L2.St} {H : Hp} {Q : VK} (hq : lift K (dBM0 T ρ τo) σ H Q) : tBM0 K T r (lift K τo) σ H Q := by
  obtain ⟨F, M, es, post, hs, he, ht, hf⟩ := hq
  refine ⟨F, M, es, _, hs, he, ht, fun M1 s F1 H1 v p1 e1 hs1 r1 => ?_⟩
  exact ⟨p1.1.at hs1 r1, h F1 M1 H1 v s [] [] post Q hs1 r1 .nil p1.2 (hf.mono e1)⟩
theorem lift_bm {K : PySem.W.Frag} {T : String} {r : V → List V → Hp → VK → Prop} {ρ : DM} {α : DA} (h : SndM K r ρ) {σ : L2.St} {H : Hp} {Q : VK} (hq : lift K (dBM T ρ τo α) σ H Q) : tBM K T r (lift K τo) (liftA K α) σ H Q := by
  obtain ⟨F, M, es, post, hs, he, ht, hf⟩ := hq
  refine ⟨F, M, es, _, hs, he, ht, fun M1 s F1 H1 v p1 e1 hs1 r1 => ?_⟩
  refine ⟨p1.1.at hs1 r1, F1, M1, es, _, hs1, he.mono e1, p1.2, fun M2 ss F2 H2 vs p2 e2 hs2 r2 => ?_⟩
  exact h F2 M2 H2 v s vs ss post Q hs2 (r1.mono e2) r2 p2 ((hf.mono e1).mono e2)
/-- xs.append(y) -/
def ρApp : DM := fun s ss M post => match s, ss with
  | .m a, [y] => ∃ xs, M a = some (.lst xs) ∧ xs.length < sizeLine ∧ post (mput M a (.lst (xs ++ [y]))) (.d .none)
  | _, _ => False
theorem snd_app {K : PySem.W.Frag} : SndM K rAppend ρApp := by
  intro F M H v s vs ss post Q hs r0 rs h hf
  unfold ρApp at h
  split at h
  · rename_i a y
    obtain ⟨xs, hM, hl, hp⟩ := h
    obtain ⟨w, rfl, rw'⟩ := sls1 rs
    obtain ⟨us, h1, h2⟩ := hs.lst hM
    exact ⟨a, us, w, r0, rfl, h1, by rw [Paired.len' h2]; exact hl, hf _ _ F _ _ hp (Same.refl F) (hs.set (o := .lst (xs ++ [y])) hM ⟨_, upd_same, Paired.app' h2 (.cons rw' .nil)⟩) .non⟩
  · exact h.elim
end
end DL
set_option Elab.async false
set_option autoImplicit false
set_option linter.all false
set_option maxRecDepth 100000
set_option maxHeartbeats 2000000
namespace DL
open PySem PySem.Spec PyProof.Rows L2

/-! ### isinstance -/
/-- the built-in type of a slot -/
def tyN (M : MHp) (s : Sl) (T : String) : Prop := match s with
  | .d .none => T = "NoneType"
  | .d (.bool _) => T = "bool"
  | .d (.int _) => T = "int"
  | .d (.str _) => T = "str"
  | .d (.list _) => T = "list"
  | .d (.tuple _) => T = "tuple"
  | .m a => match M a with
    | some (.lst _) => T = "list"
    | some (.dK _) => T = "dict"
    | some (.dT _) => T = "dict"
    | _ => False
  | .t _ => T = "tuple"
  | _ => False
theorem tyN.at {K : PySem.W.Frag} {F : Hp} {M : MHp} {H : Hp} {T : String} {s : Sl} {v : V} (h : tyN M s T) (hs : Hs K F M H) (r : SlR K F v s) : TyX K H v (.type T) := by
  unfold tyN at h
  split at h
  · subst h; rw [dq_non r]; exact .base .non
  · subst h; rw [dq_bl r]; exact .base (.bl _)
  · subst h; rw [dq_int r]; exact .base (.int _)
  · subst h; rw [dq_str r]; exact .base (.str _)
  · subst h; obtain ⟨a, vs, rfl, h1, h2⟩ := dq_lst r; exact .base (.lst (hs.ex _ _ h1))
  · subst h; obtain ⟨a, vs, rfl, h1, h2⟩ := dq_tup r; exact .base (.tup (hs.ex _ _ h1))
  · rename_i a
    have r : v = .ref a := r
    subst r
    split at h
    · rename_i ss hM; subst h; obtain ⟨vs, h1, _⟩ := hs.lst hM; exact .base (.lst h1)
    · rename_i ss hM; subst h; obtain ⟨kws, h1, _⟩ := (show ∃ kws, H a = some (.dK kws) ∧ KS K F kws ss from hs.ok _ _ hM); exact .base (.dK h1)
    · rename_i ss hM; subst h; obtain ⟨kws, h1, _⟩ := (show ∃ kws, H a = some (.dT kws) ∧ KS K F kws ss from hs.ok _ _ hM); exact .base (.dT h1)
    · exact h.elim
  · subst h; obtain ⟨a, vs, rfl, h1, h2⟩ := r; exact .base (.tup (hs.ex _ _ h1))
  · exact h.elim
/-- is the type T one of Ts (bool is an int, too) -/
def isT (T : String) (Ts : List String) : Bool := Ts.any fun U => T == U || (T == "bool" && U == "int")
def okTy (T : String) : Bool := T == "NoneType" || T == "bool" || T == "int" || T == "str" || T == "list" || T == "tuple" || T == "dict"
theorem kit_all : ∀ T ∈ ["NoneType", "bool", "int", "str", "list", "tuple", "dict"], ∀ U ∈ ["bool", "int", "str", "list", "tuple", "dict"], kitB T U = some (isT T [U]) := by decide +kernel
theorem okTy_mem {T : String} (h : okTy T = true) : T ∈ ["NoneType", "bool", "int", "str", "list", "tuple", "dict"] := by
  simp only [okTy, Bool.or_eq_true, beq_iff_eq] at h
  simp only [List.mem_cons, List.mem_nil_iff, or_false]
  rcases h with (((((h | h) | h) | h) | h) | h) | h <;> simp [h]
def okTy2 (T : String) : Bool := T == "bool" || T == "int" || T == "str" || T == "list" || T == "tuple" || T == "dict"
theorem okTy2_mem {T : String} (h : okTy2 T = true) : T ∈ ["bool", "int", "str", "list", "tuple", "dict"] := by
  simp only [okTy2, Bool.or_eq_true, beq_iff_eq] at h
  simp only [List.mem_cons, List.mem_nil_iff, or_false]
  rcases h with ((((h | h) | h) | h) | h) | h <;> simp [h]
theorem tyN_ok {M : MHp} {s : Sl} {T : String} (h : tyN M s T) : okTy T = true := by
  unfold tyN at h
  split at h
  · subst h; rfl
  · subst h; rfl
  · subst h; rfl
  · subst h; rfl
  · subst h; rfl
  · subst h; rfl
  · split at h
    · subst h; rfl
    · subst h; rfl
    · subst h; rfl
    · exact h.elim
  · subst h; rfl
  · exact h.elim
theorem kitAny_of {K : PySem.W.Frag} {T : String} (hT : okTy T = true) : ∀ {Ts : List String}, Ts.all okTy2 = true → PySem.W.kitAny K (.type T) (Ts.map Value.type) = some (isT T Ts)
  | [], _ => rfl
  | U :: Us, h => by
    rw [List.all_cons, Bool.and_eq_true] at h
    have h1 := kit_all T (okTy_mem hT) U (okTy2_mem h.1)
    have e : isT T (U :: Us) = (isT T [U] || isT T Us) := by simp [isT]
    rw [e]
    refine kitAny_cons (kit_ty h1) (fun z => ?_) (fun z => ?_)
    · rw [z, Bool.false_or]; exact kitAny_of hT h.2
    · rw [z, Bool.true_or]
def dIsi (Ts : List String) (τ : DT) : DT := fun M es post => τ M es fun M1 s => ∃ T, tyN M1 s T ∧ post M1 (.d (.bool (isT T Ts)))
section
variable {X : Cx} {e : Expr} {τ : DT} {pos p p2 p3 : Pos}
/-- isinstance(e, T) -/
theorem pd_isi {U : String} {U' : Str} (h2 : okTy2 U = true) (hg : Gl X "isinstance") (hm : X.mg "isinstance" = none) (hg' : Gl X U') (hm' : X.mg U' = none) (hv' : bootBuiltins U' = some (.type U)) (he : PD X e τ)
    (hn' : U' ≠ "__name__" := by decide) (hd' : (U' == ("__debug__" : Str)) = false := by decide)
    (h1 : starEach [e, .Name U' p2] X.env = (false, eval e X.env) :: starEach [.Name U' p2] X.env := by rfl) (h3 : starEach [.Name U' p2] X.env = (false, eval (.Name U' p2) X.env) :: starEach [] X.env := by rfl) (hpl : (backTo pos (starEach [.Name U' p2] X.env)).any (·.1) = false := by rfl) :
    PD X (.Call (.Name "isinstance" p) [e, .Name U' p2] [] pos) (dIsi [U] τ) := by
  have hc : PE X (.Name U' p2) (tC (.ty U)) := pe_bltn hg' hm' hv' rfl hn' hd'
  refine peI (pe_callB call_isi hg hm (by decide +kernel) (pa_cons he (pa_cons hc pa_nil h3) h1) (he := h1) (hpl := hpl)) fun σ H Q hq => ?_
  obtain ⟨F, M, es, post, hs, he, ht, hf⟩ := hq
  refine ⟨F, M, es, _, hs, he, ht, fun M1 s F1 H1 v p1 e1 hs1 r1 => ?_⟩
  obtain ⟨T, hT, hp⟩ := p1
  exact ⟨v, .ty U, .type T, .type U, _, rfl, .ty U, hT.at hs1 r1, kit_ty (kit_all T (okTy_mem (tyN_ok hT)) U (okTy2_mem h2)), (hf.mono e1).dat hs1 (.bl _) hp⟩
/-- isinstance(e, (T, U)) -/
theorem pd_isi2 {U W : String} {U' W' : Str} {k : Nat} {p4 : Pos} (h2 : okTy2 U = true) (h2' : okTy2 W = true) (hg : Gl X "isinstance") (hm : X.mg "isinstance" = none) (hg' : Gl X U') (hm' : X.mg U' = none) (hv' : bootBuiltins U' = some (.type U))
    (gW : Gl X W') (mW : X.mg W' = none) (vW : bootBuiltins W' = some (.type W)) (he : PD X e τ)
    (hn' : U' ≠ "__name__" := by decide) (hd' : (U' == ("__debug__" : Str)) = false := by decide) (hnW : W' ≠ "__name__" := by decide) (hdW : (W' == ("__debug__" : Str)) = false := by decide)
    (s1 : starEach [.Name U' p2, .Name W' p3] X.env = (false, eval (.Name U' p2) X.env) :: starEach [.Name W' p3] X.env := by rfl) (s2 : starEach [.Name W' p3] X.env = (false, eval (.Name W' p3) X.env) :: starEach [] X.env := by rfl)
    (h1 : starEach [e, .Tuple [.Name U' p2, .Name W' p3] k p4] X.env = (false, eval e X.env) :: starEach [.Tuple [.Name U' p2, .Name W' p3] k p4] X.env := by rfl) (h3 : starEach [.Tuple [.Name U' p2, .Name W' p3] k p4] X.env = (false, eval (.Tuple [.Name U' p2, .Name W' p3] k p4) X.env) :: starEach [] X.env := by rfl) (hpl : (backTo pos (starEach [.Tuple [.Name U' p2, .Name W' p3] k p4] X.env)).any (·.1) = false := by rfl) :
    PD X (.Call (.Name "isinstance" p) [e, .Tuple [.Name U' p2, .Name W' p3] k p4] [] pos) (dIsi [U, W] τ) := by
  have hc : PE X (.Name U' p2) (tC (.ty U)) := pe_bltn hg' hm' hv' rfl hn' hd'
  have hc2 : PE X (.Name W' p3) (tC (.ty W)) := pe_bltn gW mW vW rfl hnW hdW
  have ht : PE X (.Tuple [.Name U' p2, .Name W' p3] k p4) (tTup (tCons (tC (.ty U)) (tCons (tC (.ty W)) tNil))) := pe_tup (pa_cons hc (pa_cons hc2 pa_nil s2) s1)
  refine peI (pe_callB call_isiT hg hm (by decide +kernel) (pa_cons he (pa_cons ht pa_nil h3) h1) (he := h1) (hpl := hpl)) fun σ H Q hq => ?_
  obtain ⟨F, M, es, post, hs, he, ht, hf⟩ := hq
  refine ⟨F, M, es, _, hs, he, ht, fun M1 s F1 H1 v p1 e1 hs1 r1 => ?_⟩
  obtain ⟨T, hT, hp⟩ := p1
  refine ⟨by show 2 ≤ sizeLine; decide, fun q hq => ?_⟩
  obtain ⟨e2, hs2⟩ := hs1.newD (o := .tup [.ty U, .ty W]) hq
  refine ⟨v, q, [.ty U, .ty W], .type T, [.type U, .type W], _, rfl, upd_same, .cons (.ty U) (.cons (.ty W) .nil), hT.at hs2 (r1.mono e2), kitAny_of (tyN_ok hT) (Ts := [U, W]) (by simp [h2, h2']), ((hf.mono e1).mono e2).dat hs2 (.bl _) hp⟩
end

/-! ### sorted of pairs of ints -/
def ltPI (p q : Int × Int) : Bool := decide (p.1 < q.1) || (decide (p.1 = q.1) && decide (p.2 < q.2))
def prD (p : Int × Int) : PyData := .tuple [.int p.1, .int p.2]
/-- a def at data level -/
theorem start_env {K : PySem.W.Frag} {F : Hp} {vs : List V} {ss : List Sl} (h : SlsR K F vs ss) : ∀ (n : Nat), Env K F (vs.map some ++ List.replicate n none) (ss ++ List.replicate n .n) := by
  have h0 : ∀ n : Nat, Env K F (List.replicate n none) (List.replicate n .n) := fun n => by
    induction n with
    | zero => exact .nil
    | succ n ih => rw [List.replicate_succ, List.replicate_succ]; exact .cons trivial ih
  have h1 : Env K F (vs.map some) ss := by
    induction h with
    | nil => exact .nil
    | cons r _ ih => exact .cons (OR.some r) ih
  exact fun n => Paired.app' h1 (h0 n)
section
variable {P : Program} {w : World} {K : PySem.W.Frag} {mg : Str → Option Value} {base : Heap}
/-- what a def does: its body's transformer does what φ says -/
def Does (n : Nat) (φ : DF) (ς : DS) : Prop := ∀ M ss post, φ M ss post → ς { nx := fun M' _ => post M' (.d .none), rt := post } M (ss ++ List.replicate (n - ss.length) .n)
theorem okD {x qual : Str} {st : Stmt} {f : Addr} {fd : FuncData} {N ps : List Str} {k : Nat} {φ : DF} {ς : DS} (F : Fun K x qual st f fd) (S : FnScope N ps (defScope st)) (len : ∀ M ss post, φ M ss post → ss.length = ps.length)
    (der : ∀ (cdv : Value) (A : Around) (outer : List PySem.Env) (s : Shared) (H : Hp) (E : XK), Room k (A.deeper (envOfC qual (defScope st) s.heap.objs.size f cdv)) → PDSs (cxOf CX0 P w K mg base N qual (defScope st) f cdv A outer s H E).nox (defBody st) ς)
    (does : Does N.length φ ς) : FnOk P w K mg base CX0 (k + 1) f fd ps (spD K φ) := by
  refine F.ok S (fun vs H Q E h => ?_) (fun cdv A outer s H vs Q E hr h => ?_)
  · obtain ⟨F, M, ss, post, _, r, hp, _⟩ := h
    rw [Paired.len' r]; exact len M ss post hp
  · obtain ⟨F1, M, ss, post, hs, r, hp, hf⟩ := h
    refine ⟨_, der cdv A outer s H E hr, F1, M, _, _, hs, ?_, does M ss post hp, ⟨fun M1 es1 F2 σ2 H2 p2 e2 hs2 he2 => (hf.mono e2).dat hs2 .non p2, hf, fun _ _ _ _ _ z => z.elim, fun _ _ _ _ _ z => z.elim⟩⟩
    show Env K F1 (L2.start N vs) _
    unfold L2.start
    rw [Paired.len' r]
    exact start_env r _
end
/-! ### short ways -/
/-- a comprehension of data, nothing else being changed -/
theorem lc_pure {ι : DI} {t : Tg} {θ : DTT} {τ : DT} {vs : List Nat} {M : MHp} {es : List Sl} {post : DP} (w : Wk) (f : Nat → Option PyData) (hi : ∀ k : MHp → Wk → Prop, k M w → ι M es k) (hn : w.n ≤ 10000000)
    (hG : ∀ Dn acc, M Dn = none → w.G (mput M Dn (.lst acc)))
    (ht : ∀ i, i < w.n → ∀ Dn acc, M Dn = none → ∀ (A : DP) (B : MHp → Prop), (∀ d, f i = some d → A (mput M Dn (.lst acc)) (.d d)) → (f i = none → B (mput M Dn (.lst acc))) → t.set (w.y i) (mput M Dn (.lst acc)) (wipeS es vs) fun es2 => θ (mput M Dn (.lst acc)) es2 fun M2 b => if b = true then τ M2 es2 A else B M2)
    (hp : post M (.d (.list ((List.range w.n).filterMap f)))) : dLc finD ι t θ τ vs M es post := by
  refine hi _ fun Dn hD => ⟨fun i M' acc => M' = mput M Dn (.lst acc) ∧ acc = ((List.range i).filterMap f).map Sl.d ∧ i ≤ w.n, ⟨rfl, rfl, Nat.zero_le _⟩, ?_, ?_, ?_⟩
  · rintro i M' acc hi ⟨rfl, e, _⟩
    exact ⟨hG Dn acc hD, mput_same⟩
  · rintro i M' acc hi ⟨rfl, e, hin⟩
    have hl : acc.length ≤ i := by
      rw [e, List.length_map]
      exact Nat.le_trans (List.length_filterMap_le _ _) (by simp)
    refine ht i hi Dn acc hD _ _ (fun d hf => ?_) (fun hf => ?_)
    · refine ⟨mput_same, Nat.lt_of_le_of_lt (Nat.le_trans hl (Nat.le_trans (Nat.le_of_lt hi) hn)) (by rw [sizeLine_eq]; decide), by rw [mput_mput], ?_, hi⟩
      rw [List.range_succ, List.filterMap_append, List.map_append, ← e]
      simp [List.filterMap_cons, hf]
    · refine ⟨rfl, ?_, hi⟩
      rw [List.range_succ, List.filterMap_append, ← List.append_nil acc, e]
      simp [List.filterMap_cons, hf]
  · rintro M' acc ⟨rfl, e, _⟩
    exact ⟨_, e, by rw [mdel_mput hD]; exact hp⟩
/-! ### what the generator writes with -/
structure Cal (P : Program) (w : World) (K : PySem.W.Frag) (mg : Str → Option Value) (base : Heap) (k : Nat) (x : Str) (φ : DF) : Prop where
  ex : ∃ (f : Addr) (fd : FuncData) (ps : List Str), FnOk P w K mg base CX0 k f fd ps (spD K φ) ∧ mg x = some (.ref f) ∧ PySem.W.keepIn K (.ref f) = true ∧ Binds K fd ps []
structure DfA (K : PySem.W.Frag) (mg : Str → Option Value) (x : Str) (st : Stmt) (ps : List Str) : Prop where
  ex : ∃ f fd, Fun K x x st f fd ∧ mg x = some (.ref f) ∧ Binds K fd ps []
section
variable {P : Program} {w : World} {K : PySem.W.Frag} {mg : Str → Option Value} {base : Heap}
theorem calD {x : Str} {st : Stmt} {N ps : List Str} {k : Nat} {φ : DF} {ς : DS} (F : DfA K mg x st ps) (S : FnScope N ps (defScope st)) (len : ∀ M ss post, φ M ss post → ss.length = ps.length)
    (der : ∀ (f : Addr) (cdv : Value) (A : Around) (outer : List PySem.Env) (s : Shared) (H : Hp) (E : XK), Room k (A.deeper (envOfC x (defScope st) s.heap.objs.size f cdv)) → PDSs (cxOf CX0 P w K mg base N x (defScope st) f cdv A outer s H E).nox (defBody st) ς)
    (does : Does N.length φ ς) : Cal P w K mg base (k + 1) x φ := by
  obtain ⟨f, fd, F1, m, b⟩ := F.ex
  exact ⟨f, fd, ps, okD F1 S len (der f) does, m, F1.kp, b⟩
variable {X : Cx} {o e : Expr} {es : List Expr} {α : DA} {τo : DT} {p pos apos : Pos}
theorem pd_callC {k j : Nat} {φ : DF} {x : Str} (c : Cal X.prog X.w X.K X.mg X.base k x φ) (hr : Room j X.A) (hk : k ≤ j) (hg : Gl X x)
    (ha : PDA X (e :: es) α) (hd : (x == ("__debug__" : Str)) = false := by decide) (he : starEach (e :: es) X.env = (false, eval e X.env) :: starEach es X.env := by rfl) (hpl : (backTo pos (starEach es X.env)).any (·.1) = false := by rfl) : PD X (.Call (.Name x p) (e :: es) [] pos) (dCall φ α) := by
  obtain ⟨f, fd, ps, G, m, kp, b⟩ := c.ex
  exact pd_call G (hr.mono hk) hg m kp b ha hd he hpl
theorem pd_append (ho : PD X o τo) (ha : PDA X [e] α)
    (hbase : attributeBase o "append" X.env (eval o X.env) = eval o X.env := by rfl)
    (hfew : ((backTo pos (starEach [e] X.env)).all (fun x => !x.1) && (backToKw pos (keywordEach [] X.env)).all (fun x => x.1.isSome)
      && decide ([e].length + ([] : List Keyword).length + (if ([] : List Keyword).isEmpty then 0 else 1) < 30)) = true := by rfl)
    (hline : (apos.endLine == pos.line) = true := by rfl) (hs : starEach [e] X.env = (false, eval e X.env) :: starEach [] X.env := by rfl) (hplain : (backTo pos (starEach [] X.env)).any (·.1) = false := by rfl) :
    PD X (.Call (.Attribute o "append" apos) [e] [] pos) (dBM "list" ρApp τo α) := peI (pe_bm PySem.F.plainAttrs_list PySem.F.slot_list_append PySem.F.type_list_append mt_append ho ha hbase hfew hline hs hplain) fun _ _ _ hq => lift_bm snd_app hq
/-- d[k] -/
def ρDk : DR2 := fun s1 s2 M post => ∃ a x s, s1 = .m a ∧ s2 = .d x ∧ GetS M a x (some s) ∧ post M s
theorem pd_dk {a b : Expr} {τa τb : DT} (hu : X.A.units + 1 < cLine) (ha : PD X a τa) (hb : PD X b τb) (hs : PlainIx b) : PD X (.Subscript a b pos) (dOp ρDk τa τb) := pd_ix (ix_dict hu) (by
  intro F M H v1 v2 s1 s2 post Q hs r1 r2 h hf
  obtain ⟨a, x, s, rfl, rfl, hg, hp⟩ := h
  obtain ⟨ov, h1, h2, _⟩ := hg.at hs r2
  obtain ⟨v, rfl, h3⟩ := h2 s rfl
  exact ⟨a, v, r1, h1, hf.here hs h3 hp⟩) ha hb hs
/-- a def of which nothing is said -/
theorem calF {x : Str} {st : Stmt} {ps : List Str} (F : DfA K mg x st ps) : Cal P w K mg base 0 x (fun _ _ _ => False) := by
  obtain ⟨f, fd, F1, m, b⟩ := F.ex
  refine ⟨f, fd, ps, ⟨fun vs H Q E h => ?_, fun A outer s H args us vs Q E _ _ _ _ h => ?_⟩, m, F1.kp, b⟩
  · obtain ⟨_, _, _, _, _, _, h, _⟩ := h; exact h.elim
  · obtain ⟨_, _, _, _, _, _, h, _⟩ := h; exact h.elim
end
end DL
set_option Elab.async false
set_option autoImplicit false
set_option linter.all false
set_option maxRecDepth 100000
set_option maxHeartbeats 2000000
namespace DL
open PySem PySem.Spec PyProof.Rows L2
theorem vals_back : ∀ {xs : List V} {us : List Value} {i : Nat} {u : Value}, Vals xs us → us[i]? = some u → ∃ x, xs[i]? = some x ∧ RelV x u
  | _, _, _, _, .nil, e => by simp at e
  | _, _, 0, _, .cons r _, e => by simp at e; subst e; exact ⟨_, rfl, r⟩
  | _, _, i + 1, u, .cons _ t, e => by
    obtain ⟨x, h1, h2⟩ := vals_back (i := i) (u := u) t (by simpa using e)
    exact ⟨x, by simpa using h1, h2⟩
/-- min(xs), xs a list of data that can be compared -/
def rMinDt (K : PySem.W.Frag) : List V → Hp → VK → Prop := fun vs H Q => ∃ (a : Addr) (us : List V) (x : PyData) (xs : List PyData), vs = [.ref a] ∧ SqL K H a us ∧ DpAll K H us (x :: xs) ∧ PySem.W.AlikeAll (x :: xs) ∧ PyData.depthAll (x :: xs) ≤ 60 ∧
  ∀ (i : Nat) v, us[i]? = some v → (x :: xs)[i]? = some (PySem.W.minD x xs) → Q v H
theorem cr_minDt {X : Cx} (hc : X.calm = true) (hu : X.A.units + 64 < cLine) : CallR X (.builtin "min") (rMinDt X.K) := by
  intro pins s σ H vs ws Q I r h
  obtain ⟨a, us, x, xs, rfl, hq, hd, ha, hdep, hk⟩ := h
  obtain ⟨w, rfl, r1⟩ := Vals.one r
  cases (show w = Value.ref a from r1)
  obtain ⟨its, rv, p, hz⟩ := I.list hq
  obtain ⟨as, hr⟩ := Dp.readsAll I (x :: xs) us its hd rv
  refine PySem.W.min_list_data (vs := its.toArray) (I.ok.hd hc) p.isList (by simpa using hr) ha (by omega) fun i v h' tk bs hv hrd hkeep => ?_
  have hv' : its[i]? = some v := by simpa using hv
  obtain ⟨v0, h0, rv0⟩ := vals_back rv hv'
  obtain ⟨cs, hrd2, hlt, _, _⟩ := PySem.W.readsAll_at hr i v hv'
  have e := (Reads.unique (PySem.W.reads_keeps hkeep hrd2) _ _ hrd).1
  refine ⟨v0, H, I.kept (h' := h') (t' := tk) hkeep, rv0, hk i v0 h0 ?_⟩
  rw [← e, List.getD_eq_getElem?_getD, List.getElem?_eq_getElem hlt]
  rfl
def ρMinD : DB := fun ss M post => ∃ (s : Sl) (x : PyData) (xs : List PyData), ss = [s] ∧ LstOf M s (x :: xs) ∧ PySem.W.AlikeAll (x :: xs) ∧ PyData.depthAll (x :: xs) ≤ 60 ∧ post M (.d (PySem.W.minD x xs))
theorem snd_minD {K : PySem.W.Frag} : SndC K (rMinDt K) ρMinD := by
  intro F M H vs ss post Q hs r0 h hf
  obtain ⟨s, x, xs, rfl, h1, h2, h3, hp⟩ := h
  obtain ⟨v, rfl, r⟩ := sls1 r0
  obtain ⟨a, us, rfl, h4, h5⟩ := h1.at hs r
  refine ⟨a, us, x, xs, rfl, SqL.of h4, DqA.dp hs.ex _ _ h5, h2, h3, fun i v hv hx => ?_⟩
  obtain ⟨v', e, hd⟩ := h5.get hx
  rw [hv] at e
  cases e
  exact hf.dat hs hd hp
theorem pd_minD {X : Cx} {pos p : Pos} {e : Expr} {α : DA} (hc : X.calm = true) (hu : X.A.units + 64 < cLine) (hg : Gl X "min") (hm : X.mg "min" = none) (ha : PDA X [e] α) (he : starEach [e] X.env = (false, eval e X.env) :: starEach [] X.env := by rfl) : PD X (.Call (.Name "min" p) [e] [] pos) (dCB ρMinD α) := pd_callB (cr_minDt hc hu) snd_minD hg hm (by decide +kernel) ha (he := he)
end DL
set_option Elab.async false
set_option autoImplicit false
set_option linter.all false
set_option maxRecDepth 100000
namespace DL
open PySem PySem.Spec PyProof.Rows L2
/-! the operators at known slots -/
section
variable {M : MHp} {post : DP} {i j : Int} {x y : Str} {xs ys : List PyData} {b : Bool} {ns : List Int} {s t : Sl}
theorem ρAdd_int : ρAdd (.d (.int i)) (.d (.int j)) M post = post M (.d (.int (i + j))) := rfl
theorem ρAdd_str : ρAdd (.d (.str x)) (.d (.str y)) M post = (x.length + y.length ≤ sizeLine ∧ post M (.d (.str (x ++ y)))) := rfl
theorem ρAdd_tup : ρAdd (.d (.tuple xs)) (.d (.tuple ys)) M post = (xs.length + ys.length ≤ sizeLine ∧ post M (.d (.tuple (xs ++ ys)))) := rfl
theorem ρAdd_lst (h : xs.length + ys.length ≤ sizeLine ∧ post M (.d (.list (xs ++ ys)))) : ρAdd (.d (.list xs)) (.d (.list ys)) M post := ⟨xs, ys, rfl, rfl, h⟩
theorem ρAdd_ml {a : Addr} (hM : M a = some (.lst (xs.map Sl.d))) (h : xs.length + ys.length ≤ sizeLine ∧ post M (.d (.list (xs ++ ys)))) : ρAdd (.m a) (.d (.list ys)) M post := ⟨xs, ys, hM, rfl, h⟩
theorem ρAdd_lm {a : Addr} (hM : M a = some (.lst (ys.map Sl.d))) (h : xs.length + ys.length ≤ sizeLine ∧ post M (.d (.list (xs ++ ys)))) : ρAdd (.d (.list xs)) (.m a) M post := ⟨xs, ys, rfl, hM, h⟩
theorem ρSub_int : ρSub (.d (.int i)) (.d (.int j)) M post = post M (.d (.int (i - j))) := rfl
theorem ρMul_int : ρMul (.d (.int i)) (.d (.int j)) M post = (CMul i j ∧ post M (.d (.int (i * j)))) := rfl
theorem ρMul_lst (h : -(2 ^ 63) ≤ j ∧ j < 2 ^ 63 ∧ xs.length * j.toNat ≤ sizeLine ∧ post M (.d (.list (List.replicate j.toNat xs).flatten))) : ρMul (.d (.list xs)) (.d (.int j)) M post := ⟨xs, rfl, h⟩
theorem ρMod_int : ρMod (.d (.int i)) (.d (.int j)) M post = (0 < j ∧ post M (.d (.int (i % j)))) := rfl
theorem ρDiv_int : ρDiv (.d (.int i)) (.d (.int j)) M post = (CDivW i j ∧ post M (.d (.int (i / j)))) := rfl
theorem ρPow_int : ρPow (.d (.int i)) (.d (.int j)) M post = (CPow i j ∧ post M (.d (.int (i ^ j.toNat)))) := rfl
theorem ρLt_int : ρLt (.d (.int i)) (.d (.int j)) M post = post M (.d (.bool (decide (i < j)))) := rfl
theorem ρLe_int : ρLe (.d (.int i)) (.d (.int j)) M post = post M (.d (.bool (decide (i ≤ j)))) := rfl
theorem ρGt_int : ρGt (.d (.int i)) (.d (.int j)) M post = post M (.d (.bool (decide (j < i)))) := rfl
theorem ρGe_int : ρGe (.d (.int i)) (.d (.int j)) M post = post M (.d (.bool (decide (j ≤ i)))) := rfl
theorem ρNeg_int : ρNeg (.d (.int i)) M post = post M (.d (.int (-i))) := rfl
theorem ρIx_lst : ρIx (.d (.list xs)) (.d (.int i)) M post = ∃ d, atI xs i = some d ∧ post M (.d d) := rfl
theorem ρIx_tup : ρIx (.d (.tuple xs)) (.d (.int i)) M post = ∃ d, atI xs i = some d ∧ post M (.d d) := rfl
theorem ρIx_str : ρIx (.d (.str x)) (.d (.int i)) M post = (x.length ≤ sizeLine ∧ ∃ c, atI x.cps.toList i = some c ∧ post M (.d (.str ⟨#[c]⟩))) := rfl
theorem ρIx_scr : ρIx (.s ns) (.d (.int i)) M post = ∃ k, atI ns i = some k ∧ post M (.d (.int k)) := rfl
theorem ρIx_ml {a : Addr} {ss : List Sl} (hM : M a = some (.lst ss)) (h : ∃ s, atI ss i = some s ∧ post M s) : ρIx (.m a) (.d (.int i)) M post := by
  show (match M a with | some (.lst ss) => _ | _ => False)
  rw [hM]; exact h
theorem ρLen_lst : ρLen [.d (.list xs)] M post = post M (.d (.int xs.length)) := rfl
theorem ρLen_tup : ρLen [.d (.tuple xs)] M post = post M (.d (.int xs.length)) := rfl
theorem ρLen_str : ρLen [.d (.str x)] M post = (x.length ≤ sizeLine ∧ post M (.d (.int x.length))) := rfl
theorem ρLen_scr : ρLen [.s ns] M post = post M (.d (.int ns.length)) := rfl
theorem ρLen_m {a : Addr} {ss : List Sl} (hM : M a = some (.lst ss)) (h : post M (.d (.int ss.length))) : ρLen [.m a] M post := ⟨ss, hM, h⟩
theorem ρMax_2 : ρMax [.d (.int i), .d (.int j)] M post = post M (.d (.int (if j > i then j else i))) := rfl
theorem ρMin_2 : ρMin [.d (.int i), .d (.int j)] M post = post M (.d (.int (if j < i then j else i))) := rfl
theorem ρInt_int : ρInt [.d (.int i)] M post = post M (.d (.int i)) := rfl
theorem ρInt_bool : ρInt [.d (.bool b)] M post = post M (.d (.int (if b then 1 else 0))) := rfl
theorem ρApp_m {a : Addr} : ρApp (.m a) [s] M post = ∃ xs, M a = some (.lst xs) ∧ xs.length < sizeLine ∧ post (mput M a (.lst (xs ++ [s]))) (.d .none) := rfl
theorem ρEq_dd : ρEq (.d (.int i)) (.d (.int j)) M post = ∃ x y, DatOf M (.d (.int i)) x ∧ DatOf M (.d (.int j)) y ∧ SeqAt.shaped x = true ∧ SeqAt.shaped y = true ∧ post M (.d (.bool (PyData.eqv x y))) := rfl
theorem ρEq_d {u v : PyData} (h : SeqAt.shaped u = true ∧ SeqAt.shaped v = true ∧ post M (.d (.bool (PyData.eqv u v)))) : ρEq (.d u) (.d v) M post := ⟨u, v, rfl, rfl, h⟩
theorem ρNe_d {u v : PyData} (h : SeqAt.shaped u = true ∧ SeqAt.shaped v = true ∧ post M (.d (.bool (!PyData.eqv u v)))) : ρNe (.d u) (.d v) M post := ⟨u, v, rfl, rfl, h⟩
variable {pt : MHp → Bool → Prop} {pw : MHp → Wk → Prop}
theorem ρTru_b : ρTru (.d (.bool b)) M pt = pt M b := rfl
theorem ρTru_n : ρTru (.d .none) M pt = pt M false := rfl
theorem ρTru_i : ρTru (.d (.int i)) M pt = pt M (i != 0) := rfl
theorem ρTru_l : ρTru (.d (.list xs)) M pt = pt M (!xs.isEmpty) := rfl
theorem ρTru_t : ρTru (.d (.tuple xs)) M pt = pt M (!xs.isEmpty) := rfl
theorem ρWk_l : ρWk (.d (.list xs)) M pw = pw M (wkD xs) := rfl
theorem ρWk_t : ρWk (.d (.tuple xs)) M pw = pw M (wkD xs) := rfl
theorem ρWk_s : ρWk (.s ns) M pw = pw M (wkD (ns.map PyData.int)) := rfl
theorem ρWk_m {a : Addr} : ρWk (.m a) M pw = ∃ ss, M a = some (.lst ss) ∧ pw M (wkM a ss) := rfl
variable {lo hi : Option Int}
theorem ρSl_t : ρSl (.d (.tuple xs)) lo hi M post = post M (.d (.tuple (cutD xs lo hi))) := rfl
theorem ρSl_s : ρSl (.d (.str x)) lo hi M post = (x.length ≤ sizeLine ∧ post M (.d (.str (cutS x lo hi)))) := rfl
theorem ρSl_c : ρSl (.s ns) lo hi M post = post M (.d (.list (cutD (ns.map PyData.int) lo hi))) := rfl
theorem ρSl_l (h : post M (.d (.list (cutD xs lo hi)))) : ρSl (.d (.list xs)) lo hi M post := ⟨xs, rfl, h⟩
theorem dV_eq {es : List Sl} {k : Nat} (h : es[k]? = some s) (hn : s ≠ .n) (hp : post M s) : dV k M es post := by
  unfold dV dVs; rw [h]
  cases s with
  | n => exact absurd rfl hn
  | d _ => exact hp
  | m _ => exact hp
  | s _ => exact hp
  | t _ => exact hp
theorem ρIx_t {ss : List Sl} : ρIx (.t ss) (.d (.int i)) M post = ∃ s, atI ss i = some s ∧ post M s := rfl
theorem ρLen_t {ss : List Sl} : ρLen [.t ss] M post = post M (.d (.int ss.length)) := rfl
theorem ρTru_tt {ss : List Sl} : ρTru (.t ss) M pt = pt M (!ss.isEmpty) := rfl
theorem ρWk_tt {ss : List Sl} : ρWk (.t ss) M pw = pw M ⟨ss.length, fun i => ss.getD i .n, fun _ => True⟩ := rfl
theorem dB_d {τ : DT} {es : List Sl} : dB τ M es pt = τ M es fun M1 s => ∃ k, s = .d (.bool k) ∧ pt M1 k := rfl
end
theorem dVs_d {M : MHp} {post : DP} {x : PyData} : dVs (some (.d x)) M post = post M (.d x) := rfl
theorem dVs_m {M : MHp} {post : DP} {x : Addr} : dVs (some (.m x)) M post = post M (.m x) := rfl
theorem dVs_t {M : MHp} {post : DP} {x : List Sl} : dVs (some (.t x)) M post = post M (.t x) := rfl
theorem dVs_s {M : MHp} {post : DP} {x : List Int} : dVs (some (.s x)) M post = post M (.s x) := rfl
theorem setAll_c {es : List Sl} {j : Nat} {js : List Nat} {s : Sl} {ss : List Sl} : setAll es (j :: js) (s :: ss) = setAll (es.set j s) js ss := rfl
theorem setAll_n {es : List Sl} {ss : List Sl} : setAll es [] ss = es := by cases ss <;> rfl
theorem setAll_0 {es : List Sl} : setAll es [] [] = es := rfl
theorem nodup_at {α : Type} {l : List α} (h : l.Nodup) {i j : Nat} {x : α} (hi : l[i]? = some x) (hj : l[j]? = some x) : i = j := by
  obtain ⟨l1, e1⟩ := List.getElem?_eq_some_iff.mp hi
  obtain ⟨l2, e2⟩ := List.getElem?_eq_some_iff.mp hj
  have p := List.pairwise_iff_getElem.mp h
  rcases Nat.lt_trichotomy i j with q | q | q
  · exact absurd (e1.trans e2.symm) (p i j l1 l2 q)
  · exact q
  · exact absurd (e2.trans e1.symm) (p j i l2 l1 q)
end DL
namespace DL
open PySem PySem.Spec PyProof.Rows L2
theorem sp_start {K : PySem.W.Frag} {φ : DF} {H : Hp} {a : Addr} {ns : List Int} {E : XK} (hS : SqL K H a (ns.map V.int)) (h : φ (fun _ => none) [.s ns] fun _ s => s = .d (.bool true)) : spD K φ [.ref a] H (fun v _ => v = .bl true) E := by
  refine ⟨H, fun _ => none, [.s ns], _, ?_, .cons ⟨a, rfl, hS⟩ .nil, h, ?_⟩
  · exact ⟨Same.refl H, (fun _ _ e => by cases e), fun _ _ e => by cases e⟩
  · rintro M' s F' H' v rfl _ _ r
    cases r
    rfl
end DL
set_option Elab.async false
set_option autoImplicit false
set_option linter.all false
set_option maxRecDepth 100000
set_option maxHeartbeats 2000000
namespace DL
open PySem PySem.Spec PyProof.Rows L2
/-! ### a dict that is walked stays as it is -/
section
variable {X : Cx} {e : Expr} {st : Stmt} {τ : DT} {ς : DS} {pos : Pos}
def dLockE (τ : DT) : DT := fun M es post => ∃ d, (∃ kvs, M d = some (.dK kvs) ∧ ∀ od kws, τ (mput M d (.lK od kws kvs)) es fun M' s => M' d = some (.lK od kws kvs) ∧ post (mput M' d (.dK kvs)) s) ∨
  ∃ kvs, M d = some (.dT kvs) ∧ ∀ od kws, τ (mput M d (.lT od kws kvs)) es fun M' s => M' d = some (.lT od kws kvs) ∧ post (mput M' d (.dT kvs)) s
theorem pd_lock (h : PD X e τ) : PD X e (dLockE τ) := peI (pe_lock h) fun σ H Q hq => by
  obtain ⟨F, M, es, post, hs, he, ⟨d, ht⟩, hf⟩ := hq
  rcases ht with ⟨kvs, hM, ht⟩ | ⟨kvs, hM, ht⟩
  · obtain ⟨kws, h1, h2⟩ := (show ∃ kws, H d = some (.dK kws) ∧ KS X.K F kws kvs from hs.ok _ _ hM)
    refine ⟨d, .dK kws, h1, trivial, fun od => ?_⟩
    refine ⟨F, _, es, _, hs.set (o := .lK od kws kvs) hM ⟨upd_same, h2⟩, he, ht od kws, fun M' s F' H' v p1 e1 hs1 r1 => ?_⟩
    obtain ⟨g1, g2⟩ := p1
    obtain ⟨g3, g4⟩ := (show H' d = some (.frz od (.dK kws)) ∧ KS X.K F' kws kvs from hs1.ok _ _ g1)
    exact ⟨g3, hf _ _ F' _ v g2 e1 (hs1.set (o := .dK kvs) g1 ⟨kws, upd_same, g4⟩) r1⟩
  · obtain ⟨kws, h1, h2⟩ := (show ∃ kws, H d = some (.dT kws) ∧ KS X.K F kws kvs from hs.ok _ _ hM)
    refine ⟨d, .dT kws, h1, trivial, fun od => ?_⟩
    refine ⟨F, _, es, _, hs.set (o := .lT od kws kvs) hM ⟨upd_same, h2⟩, he, ht od kws, fun M' s F' H' v p1 e1 hs1 r1 => ?_⟩
    obtain ⟨g1, g2⟩ := p1
    obtain ⟨g3, g4⟩ := (show H' d = some (.frz od (.dT kws)) ∧ KS X.K F' kws kvs from hs1.ok _ _ g1)
    exact ⟨g3, hf _ _ F' _ v g2 e1 (hs1.set (o := .dT kvs) g1 ⟨kws, upd_same, g4⟩) r1⟩
def keyD : Key → PyData
  | .inl i => .int i
  | .inr x => .str x
theorem key_dq {F : Hp} (k : Key) : Dq F (kV k) (keyD k) := by cases k with | inl i => exact .int i | inr x => exact .str x
theorem keys_dq {F : Hp} : ∀ ks : List Key, DqA F (ks.map kV) (ks.map keyD)
  | [] => .nil
  | k :: ks => .cons (key_dq k) (keys_dq ks)
theorem ks_get {κ : Type} [DecidableEq κ] {K : PySem.W.Frag} {F : Hp} {kws : List (κ × V)} {kvs : List (κ × Sl)} (h : KS K F kws kvs) {i : Nat} {k : κ} {v : V} (e : kws[i]? = some (k, v)) : ∃ s, kvs[i]? = some (k, s) ∧ SlR K F v s := by
  induction h generalizing i with
  | nil => simp at e
  | @cons p q ps qs h1 _ ih =>
    cases i with
    | zero =>
      simp at e
      subst e
      obtain ⟨q1, q2⟩ := q
      obtain ⟨h2, h3⟩ := h1
      have h2 : k = q1 := h2
      subst h2
      exact ⟨q2, rfl, h3⟩
    | succ i => exact ih (i := i) (by simpa using e)
/-- over a dict's keys (within a lock) -/
def dKeys (τ : DT) : DI := fun M es post => τ M es fun M1 s => ∃ d, s = .m d ∧ ((∃ od kws kvs, M1 d = some (.lK od kws kvs) ∧ post M1 ⟨kvs.length, fun i => .d ((kvs.map fun kv => keyD kv.1).getD i .none), fun M => M d = some (.lK od kws kvs)⟩) ∨
  ∃ od kws kvs, M1 d = some (.lT od kws kvs) ∧ post M1 ⟨kvs.length, fun i => .d ((kvs.map fun kv => PyData.tuple (kv.1.map keyD)).getD i .none), fun M => M d = some (.lT od kws kvs)⟩)
theorem pdi_keys {tg : Expr} (h : PD X e τ) : PDI X tg e (dKeys τ) := piI (pi_keys h) fun σ H R hq => by
  obtain ⟨F, M, es, post, hs, he, ht, hf⟩ := hq
  refine ⟨F, M, es, _, hs, he, ht, fun M1 s F1 H1 v p1 e1 hs1 r1 => ?_⟩
  obtain ⟨d, rfl, p1⟩ := p1
  rcases p1 with ⟨od, kws, kvs, hM, hp⟩ | ⟨od, kws, kvs, hM, hp⟩
  · obtain ⟨g3, g4⟩ := (show H1 d = some (.frz od (.dK kws)) ∧ KS X.K F1 kws kvs from hs1.ok _ _ hM)
    refine ⟨d, od, r1, .inl ⟨kws, g3, hf _ _ F1 H1 _ hp e1 hs1 ⟨fun i F' M' H' e hs' hg hi => ?_, fun F' M' H' e hs' hg => ?_, fun i F' M' H' x H'' e hs' hg hi hy => ?_⟩⟩⟩
    · obtain ⟨q1, q2⟩ := (show H' d = some (.frz od (.dK kws)) ∧ KS X.K F' kws kvs from hs'.ok _ _ hg)
      exact ⟨q1, by rw [Paired.len' q2]; exact hi⟩
    · obtain ⟨q1, q2⟩ := (show H' d = some (.frz od (.dK kws)) ∧ KS X.K F' kws kvs from hs'.ok _ _ hg)
      exact ⟨q1, Nat.le_of_eq (Paired.len' q2)⟩
    · obtain ⟨q1, q2⟩ := (show H' d = some (.frz od (.dK kws)) ∧ KS X.K F' kws kvs from hs'.ok _ _ hg)
      obtain ⟨rfl, k, v, hk, rfl⟩ := hy
      obtain ⟨s, h1, _⟩ := ks_get q2 hk
      refine ⟨F', Same.refl F', hs', ?_⟩
      have : (kvs.map fun kv => keyD kv.1).getD i .none = keyD k := by simp [List.getD_eq_getElem?_getD, h1]
      show Dq F' (kV k) ((kvs.map fun kv => keyD kv.1).getD i .none)
      rw [this]
      exact key_dq k
  · obtain ⟨g3, g4⟩ := (show H1 d = some (.frz od (.dT kws)) ∧ KS X.K F1 kws kvs from hs1.ok _ _ hM)
    refine ⟨d, od, r1, .inr ⟨kws, g3, hf _ _ F1 H1 _ hp e1 hs1 ⟨fun i F' M' H' e hs' hg hi => ?_, fun F' M' H' e hs' hg => ?_, fun i F' M' H' x H'' e hs' hg hi hy => ?_⟩⟩⟩
    · obtain ⟨q1, q2⟩ := (show H' d = some (.frz od (.dT kws)) ∧ KS X.K F' kws kvs from hs'.ok _ _ hg)
      exact ⟨q1, by rw [Paired.len' q2]; exact hi⟩
    · obtain ⟨q1, q2⟩ := (show H' d = some (.frz od (.dT kws)) ∧ KS X.K F' kws kvs from hs'.ok _ _ hg)
      exact ⟨q1, Nat.le_of_eq (Paired.len' q2)⟩
    · obtain ⟨q1, q2⟩ := (show H' d = some (.frz od (.dT kws)) ∧ KS X.K F' kws kvs from hs'.ok _ _ hg)
      obtain ⟨rfl, k, v, q, hk, rfl, hq⟩ := hy
      obtain ⟨s, h1, _⟩ := ks_get q2 hk
      obtain ⟨F'', z1, z2, z3⟩ := hs'.learn hq
      refine ⟨F'', z1, z2, ?_⟩
      have : (kvs.map fun kv => PyData.tuple (kv.1.map keyD)).getD i .none = .tuple (k.map keyD) := by simp [List.getD_eq_getElem?_getD, h1]
      show Dq F'' (.ref q) ((kvs.map fun kv => PyData.tuple (kv.1.map keyD)).getD i .none)
      rw [this]
      exact .tup z3 (keys_dq k)
end
end DL
set_option Elab.async false
set_option autoImplicit false
set_option linter.all false
set_option maxRecDepth 100000
set_option maxHeartbeats 2000000
namespace DL
open PySem PySem.Spec PyProof.Rows L2
/-! ### sorted of data -/
abbrev dLe : PyData → PyData → Bool := PySem.W.dataLe false id
def rSortDt (K : PySem.W.Frag) : List V → Hp → VK → Prop := fun vs H Q => ∃ (a : Addr) (us : List V) (ds : List PyData), vs = [.ref a] ∧ SqL K H a us ∧ DpAll K H us ds ∧ PySem.W.AllAlike ds ∧ PySem.W.Sortable ds ∧ PyData.depthAll ds ≤ 60 ∧
  ∀ p, H p = none → Q (.ref p) (upd H p (.lst (((us.zip ds).mergeSort (PySem.W.dataLe false (·.2))).map (·.1))))
theorem dpa_len {K : PySem.W.Frag} {H : Hp} : ∀ {us : List V} {ds : List PyData}, DpAll K H us ds → us.length = ds.length
  | _, _, .nil => rfl
  | _, _, .cons _ r => by simp [dpa_len r]
theorem zip_each {R : Value → V → Prop} : ∀ {us : List V} {vs : List Value} {ds : List PyData}, Vals us vs → us.length = ds.length → PySem.W.EachIs (fun (v : Value) (b : V × PyData) => RelV b.1 v) vs (us.zip ds)
  | _, _, [], .nil, _ => .nil
  | _, _, d :: ds, .cons r t, h => .cons r (zip_each (R := R) t (by simpa using h))
  | _, _, [], .cons _ _, h => by simp at h
  | _, _, _ :: _, .nil, h => by simp at h
theorem zip_reads {h : Heap} : ∀ {us : List V} {vs : List Value} {ds : List PyData} {as : List Addr}, us.length = ds.length → ReadsAll h vs ds as → PySem.W.EachIs (fun (v : Value) (b : V × PyData) => ∃ as, Reads h v b.2 as) vs (us.zip ds) := by
  intro us vs ds as hl hr
  have e : PySem.W.EachIs (fun (v : Value) (b : PyData) => ∃ as, Reads h v b as) vs ds := PySem.W.readsAll_each (enc := id) (bs := ds) (by rw [List.map_id]; exact hr)
  clear hr
  induction e generalizing us with
  | nil => cases us <;> exact .nil
  | cons h1 _ ih =>
    cases us with
    | nil => simp at hl
    | cons u us => exact .cons h1 (ih (by simpa using hl))
theorem depth_mem {d : PyData} : ∀ {ds : List PyData}, d ∈ ds → d.depth ≤ PyData.depthAll ds
  | x :: xs, h => by
    rw [PyData.depthAll]
    rcases List.mem_cons.mp h with rfl | h
    · exact Nat.le_max_left _ _
    · exact Nat.le_trans (depth_mem h) (Nat.le_max_right _ _)
theorem each_vals : ∀ {out : List Value} {bs : List (V × PyData)}, PySem.W.EachIs (fun (v : Value) (b : V × PyData) => RelV b.1 v) out bs → Vals (bs.map (·.1)) out
  | _, _, .nil => .nil
  | _, _, .cons h r => .cons h (each_vals r)
theorem cr_sortDt {X : Cx} (hc : X.calm = true) (hu : X.A.units + 64 < cLine) : CallR X (.builtin "sorted") (rSortDt X.K) := by
  intro pins s σ H vs ws Q I r h
  obtain ⟨a, us, ds, rfl, hq, hd, ha, hk, hdep, q⟩ := h
  obtain ⟨w, rfl, r1⟩ := Vals.one r
  cases (show w = Value.ref a from r1)
  obtain ⟨its, rv, p, hz⟩ := I.list hq
  obtain ⟨as, hr⟩ := Dp.readsAll I ds us its hd rv
  have hl := dpa_len hd
  have e2 : (us.zip ds).map (·.2) = ds := List.map_snd_zip (by omega)
  refine PySem.W.sorted_data (R := fun (v : Value) (b : V × PyData) => RelV b.1 v) (enc := fun b : V × PyData => b.2) (bs := us.zip ds) p.isList (zip_each (R := fun _ _ => True) rv hl) (zip_reads hl hr) (by rw [e2]; exact ha) (by rw [e2]; exact hk) (by rw [List.length_zip]; omega) (fun b hb => ?_) fun out h1 h2 => ?_
  · have := depth_mem (List.of_mem_zip hb).2
    show X.A.units + 2 + b.2.depth < cLine
    omega
  · obtain ⟨ep, he'⟩ := PyProof.Rows.sortedAll_at s.heap its out.toArray
    have hlen : (((us.zip ds).mergeSort (PySem.W.dataLe false (·.2))).map (·.1)).length ≤ sizeLine := by
      rw [List.length_map, List.length_mergeSort, List.length_zip]; omega
    exact ⟨.ref _, upd H (s.heap.objs.size + 1) (.lst _), I.laid (t' := s.toks) (fun _ _ => PyProof.Rows.sortedAll_old) (Nat.le_succ _) ⟨hlen, out, ep, each_vals h2, he'⟩, rfl, q _ (I.hok.fresh (Nat.le_succ _))⟩
theorem zip_dq {F : Hp} : ∀ {us : List V} {ds : List PyData}, DqA F us ds → ∀ b ∈ us.zip ds, Dq F b.1 b.2
  | _, _, .nil, b, h => by simp at h
  | _, _, .cons h r, b, hb => by
    rcases List.mem_cons.mp hb with rfl | hb
    · exact h
    · exact zip_dq r b hb
theorem dqa_of {F : Hp} : ∀ {bs : List (V × PyData)}, (∀ b ∈ bs, Dq F b.1 b.2) → DqA F (bs.map (·.1)) (bs.map (·.2))
  | [], _ => .nil
  | b :: bs, h => .cons (h b (List.mem_cons_self ..)) (dqa_of fun c hc => h c (List.mem_cons_of_mem _ hc))
def ρSort : DB := fun ss M post => ∃ (s : Sl) (ds : List PyData), ss = [s] ∧ LstOf M s ds ∧ PySem.W.AllAlike ds ∧ PySem.W.Sortable ds ∧ PyData.depthAll ds ≤ 60 ∧ post M (.d (.list (ds.mergeSort dLe)))
theorem snd_sort {K : PySem.W.Frag} : SndC K (rSortDt K) ρSort := by
  intro F M H vs ss post Q hs r0 h hf
  obtain ⟨s, ds, rfl, h1, h2, h3, h4, hp⟩ := h
  obtain ⟨v, rfl, r⟩ := sls1 r0
  obtain ⟨a, us, rfl, h5, h6⟩ := h1.at hs r
  refine ⟨a, us, ds, rfl, SqL.of h5, DqA.dp hs.ex _ _ h6, h2, h3, h4, fun p np => ?_⟩
  have e : ((us.zip ds).mergeSort (PySem.W.dataLe false (·.2))).map (·.2) = ds.mergeSort dLe := by
    have e1 := List.map_mergeSort (f := fun b : V × PyData => b.2) (r := PySem.W.dataLe false fun b : V × PyData => b.2) (s := dLe) (l := us.zip ds) (fun a _ b _ => rfl)
    exact e1.trans (by rw [List.map_snd_zip (by rw [h6.length]; exact Nat.le_refl _)])
  refine hf.newL hs ?_ hp p np
  rw [← e]
  exact dqa_of fun b hb => zip_dq h6 b ((List.mergeSort_perm _ _).mem_iff.mp hb)
theorem pd_sort {X : Cx} {pos p : Pos} {e : Expr} {α : DA} (hc : X.calm = true) (hu : X.A.units + 64 < cLine) (hg : Gl X "sorted") (hm : X.mg "sorted" = none) (ha : PDA X [e] α) (he : starEach [e] X.env = (false, eval e X.env) :: starEach [] X.env := by rfl) : PD X (.Call (.Name "sorted" p) [e] [] pos) (dCB ρSort α) := pd_callB (cr_sortDt hc hu) snd_sort hg hm (by decide +kernel) ha (he := he)
/-! ### list(d.values()) -/
theorem kdl_valuesR {prog : Program} {w : World} {r d : Addr} {es : Array DictEntry} {ep : Nat} : PySem.W.KdlSrc prog w "dict_values" r d es.size (fun i v => ∃ hi : i < es.size, v = es[i].val) (fun h => h.IsValuesView r d ∧ Heap.DictRaw h d es ep) where
  type := fun _ hm => hm.1.typeIs
  there := fun _ hm => ⟨let ⟨_, ho, _⟩ := hm.1; Heap.lt_size ho, let ⟨_, ho, _⟩ := hm.2; Heap.lt_size ho⟩
  keep := fun _ _ hm hk => ⟨let ⟨o, ho, x⟩ := hm.1; ⟨o, hk r (.inl rfl) o ho, x⟩, hm.2.at fun o e => hk d (.inr rfl) o e⟩
  notList := by decide
  notTuple := by decide
  hint := fun _ _ _ _ hm hq => PySem.W.kdl_hint_values hm.1.typeIs hq
  iter := fun _ _ hh hm => ⟨_, _, (fun _ _ hq => wpAny_pyIter_values_raw hm.1 hm.2 hq), Walks.rawValues hh _ d (let ⟨_, ho, _⟩ := hm.2; Nat.ne_of_lt (Heap.lt_size ho)) es ep, ⟨⟨_, Heap.get?_push_size _ rfl, rfl, rfl⟩, hm.2.at fun _ e => Heap.get?_push_of_some _ e⟩⟩
def tListVals (te : TE) : TE := fun σ H Q => te σ H fun x H1 => ∃ d ws, x = .ref d ∧ ((∃ kvs : List (Key × V), Rd H1 d (.dK kvs) ∧ ws = kvs.map (·.2)) ∨ ∃ kvs : List (List Key × V), Rd H1 d (.dT kvs) ∧ ws = kvs.map (·.2)) ∧ ∀ p, H1 p = none → Q (.ref p) (upd H1 p (.lst ws))
section
variable {X : Cx} {e : Expr} {te : TE} {τ : DT} {p apos cpos pos : Pos}
/-- a dict's entries as they stand -/
theorem raw_of {P : Program} {w : World} {H : Hp} {h : Heap} {d : Addr} {ws : List V} (ok : HOk P w H h) (hr : (∃ kvs : List (Key × V), Rd H d (.dK kvs) ∧ ws = kvs.map (·.2)) ∨ ∃ kvs : List (List Key × V), Rd H d (.dT kvs) ∧ ws = kvs.map (·.2)) :
    (d == sysModules) = false ∧ ∃ es ep, Heap.DictRaw h d es ep ∧ es.size = ws.length ∧ ws.length ≤ sizeLine ∧ ∀ i (hi : i < es.size), ∃ x, ws[i]? = some x ∧ RelV x es[i].val := by
  rcases hr with ⟨kvs, hk, rfl⟩ | ⟨kvs, hk, rfl⟩
  · obtain ⟨z, y, vs, kv, dd⟩ := dk_rd ok hk
    obtain ⟨es, ep, r, hs, hi⟩ := dd.raw
    have l1 : kvs.length = vs.length := Paired.length kv
    refine ⟨y, es, ep, r, by rw [List.length_map]; omega, by rw [List.length_map]; exact z, fun i hlt => ?_⟩
    obtain ⟨⟨k, v⟩, hv⟩ : ∃ q, vs[i]? = some q := ⟨vs[i]'(by omega), by simp⟩
    obtain ⟨x, h1, h2⟩ := KV.at' kv hv
    refine ⟨x, by rw [List.getElem?_map, h1]; rfl, ?_⟩
    rw [(hi i hlt k v hv).2]; exact h2
  · obtain ⟨z, y, xs, kt, dd⟩ := dt_rd ok hk
    obtain ⟨es, ep, r, hs, hi⟩ := dd.raw
    have l1 : kvs.length = xs.length := Paired.length kt
    refine ⟨y, es, ep, r, by rw [List.length_map]; omega, by rw [List.length_map]; exact z, fun i hlt => ?_⟩
    obtain ⟨q, h1, h2, h3, h4⟩ := hi i hlt
    obtain ⟨x, g1, g2⟩ := Paired.get' kt h1
    refine ⟨x.2, by rw [List.getElem?_map, g1]; rfl, ?_⟩
    rw [h3]; exact g2.2.2
theorem vals_at : ∀ {ws : List V} {vs : List Value}, vs.length = ws.length → (∀ (i : Nat) v, vs[i]? = some v → ∃ x, ws[i]? = some x ∧ RelV x v) → Vals ws vs
  | [], [], _, _ => .nil
  | w :: ws, v :: vs, hl, h => by
    obtain ⟨x, h1, h2⟩ := h 0 v rfl
    simp at h1
    subst h1
    exact .cons h2 (vals_at (by simpa using hl) fun i u hu => by simpa using h (i + 1) u (by simpa using hu))
  | [], _ :: _, hl, _ => by simp at hl
  | _ :: _, [], hl, _ => by simp at hl
theorem pe_listVals (hc : X.calm = true) (he : PE X e te) (hg : Gl X "list") (hm : X.mg "list" = none) (hv : bootBuiltins "list" = some (.type "list")) (hbase : attributeBase e "values" X.env (eval e X.env) = eval e X.env := by rfl) (hline : (apos.endLine == cpos.line) = true := by rfl)
    (hs : starEach [.Call (.Attribute e "values" apos) [] [] cpos] X.env = (false, eval (.Call (.Attribute e "values" apos) [] [] cpos) X.env) :: starEach [] X.env := by rfl) :
    PE X (.Call (.Name "list" p) [.Call (.Attribute e "values" apos) [] [] cpos] [] pos) (tListVals te) := by
  refine ⟨fun pins s σ H Q I hq => ?_⟩
  refine wpAny_Call_Name_kw (ld_blt I hg hm hv ?_)
  refine PyProof.Rows.callWith_type1 ?_ hs rfl
  rw [hs]
  show wpAny _ _ (spliced ((false, eval (.Call (.Attribute e "values" apos) [] [] cpos) X.env) :: backTo pos (starEach [] X.env))) _ _ s
  refine Calls.spliced_cons ?_
  refine wpAny_Call_method (T := "dict") (id := "dict.values") hbase rfl hline F.plainAttrs_dict F.slot_dict_values F.type_dict_values (thn (he.run pins s σ H _ I hq) fun u s1 ⟨x, H1, I1, rx, d, ws, ex, hd, q⟩ => ?_)
  subst ex
  obtain rfl : u = Value.ref d := rx
  obtain ⟨hs0, es, ep, raw, hz, hsz, hit⟩ := raw_of I1.hok hd
  have I2 : Inv X pins σ H1 { s1 with heap := s1.heap.push { cls := .type "dict_values", data := .fields #[.ref d] } } := I1.kept (t' := s1.toks) fun b ob q => Heap.get?_push_of_some _ q
  obtain ⟨ob, ho, hx, hdt⟩ := id raw
  refine ⟨⟨ob, ho, hx.1⟩, ?_, ?_⟩
  · intro b e2
    cases e2
    exact ⟨ob, ho, hx.2.1⟩
  show wpAny _ _ (callWith cpos (.builtin "dict.values") [.ref d] [] []) _ X.xe s1
  refine method_meetsIn F.slot_dict_values F.entry_dict_values rfl (PySem.evalArgs_none ⟨rfl, ⟨ob, ho, hx.1⟩, F.args_dict_values_1 _, _, meets_dict_values_raw d hs0, ⟨es, ep, raw⟩, ?_⟩)
  refine Calls.spliced_nil ?_
  refine PySem.W.kdl_call (kdl_valuesR (r := s1.heap.objs.size) (d := d) (es := es) (ep := ep)) (I1.ok.hd hc) ⟨⟨_, Heap.get?_push_size _ rfl, rfl, rfl⟩, raw.at fun _ e => Heap.get?_push_of_some _ e⟩ (by omega) fun h' tk acc c hk hS hacc => ?_
  have rv : Vals ws acc.toList := vals_at (by rw [Array.length_toList, hacc.1]; exact hz) fun i v hv => by
    obtain ⟨hi, rfl⟩ := hacc.2 i v (by rw [← Array.getElem?_toList]; exact hv)
    exact hit i hi
  exact ⟨.ref _, _, I2.laid (t' := tk) (o := .lst ws) hk (Nat.le_refl _) ⟨hsz, acc.toList, c, rv, by rw [Array.toArray_toList]; exact hS⟩, rfl, q _ (I2.hok.fresh (Nat.le_refl _))⟩
/-- list(d.values()), the values data -/
def dListVals (τ : DT) : DT := fun M es post => τ M es fun M1 s => ∃ d, s = .m d ∧ ((∃ (kvs : List (Key × Sl)) (ds : List PyData), M1 d = some (.dK kvs) ∧ kvs.map (·.2) = ds.map Sl.d ∧ post M1 (.d (.list ds))) ∨ ∃ (kvs : List (List Key × Sl)) (ds : List PyData), M1 d = some (.dT kvs) ∧ kvs.map (·.2) = ds.map Sl.d ∧ post M1 (.d (.list ds)))
theorem ks_sls {κ : Type} [DecidableEq κ] {K : PySem.W.Frag} {F : Hp} {kws : List (κ × V)} {kvs : List (κ × Sl)} (h : KS K F kws kvs) : SlsR K F (kws.map (·.2)) (kvs.map (·.2)) := by
  induction h with
  | nil => exact .nil
  | cons h _ ih => exact .cons h.2 ih
theorem pd_listVals (hc : X.calm = true) (he : PD X e τ) (hg : Gl X "list") (hm : X.mg "list" = none) (hbase : attributeBase e "values" X.env (eval e X.env) = eval e X.env := by rfl) (hline : (apos.endLine == cpos.line) = true := by rfl)
    (hs : starEach [.Call (.Attribute e "values" apos) [] [] cpos] X.env = (false, eval (.Call (.Attribute e "values" apos) [] [] cpos) X.env) :: starEach [] X.env := by rfl) :
    PD X (.Call (.Name "list" p) [.Call (.Attribute e "values" apos) [] [] cpos] [] pos) (dListVals τ) := peI (pe_listVals hc he hg hm (by decide +kernel) hbase hline hs) fun σ H Q hq => by
  obtain ⟨F, M, es, post, hs, he, ht, hf⟩ := hq
  refine ⟨F, M, es, _, hs, he, ht, fun M1 s F1 H1 v p1 e1 hs1 r1 => ?_⟩
  obtain ⟨d, rfl, p1⟩ := p1
  rcases p1 with ⟨kvs, ds, hM, hk, hp⟩ | ⟨kvs, ds, hM, hk, hp⟩
  · obtain ⟨kws, h1, h2⟩ := (show ∃ kws, H1 d = some (.dK kws) ∧ KS X.K F1 kws kvs from hs1.ok _ _ hM)
    have h3 := ks_sls h2
    rw [hk] at h3
    exact ⟨d, _, r1, .inl ⟨kws, .inl h1, rfl⟩, (hf.mono e1).newL hs1 (sls_data h3) hp⟩
  · obtain ⟨kws, h1, h2⟩ := (show ∃ kws, H1 d = some (.dT kws) ∧ KS X.K F1 kws kvs from hs1.ok _ _ hM)
    have h3 := ks_sls h2
    rw [hk] at h3
    exact ⟨d, _, r1, .inr ⟨kws, .inl h1, rfl⟩, (hf.mono e1).newL hs1 (sls_data h3) hp⟩
end
end DL
set_option Elab.async false
set_option autoImplicit false
set_option linter.all false
set_option maxRecDepth 100000
set_option maxHeartbeats 2000000
namespace DL
open PySem PySem.Spec PyProof.Rows L2
def lkD (D : DE) (d : Addr) (o o' : MO) : DE := { nx := fun M es => M d = some o ∧ D.nx (mput M d o') es, rt := fun M s => M d = some o ∧ D.rt (mput M d o') s, bk := fun M es => M d = some o ∧ D.bk (mput M d o') es, ct := fun M es => M d = some o ∧ D.ct (mput M d o') es }
def dLockS (ς : DS) : DS := fun D M es => ∃ d, (∃ kvs, M d = some (.dK kvs) ∧ ∀ od kws, ς (lkD D d (.lK od kws kvs) (.dK kvs)) (mput M d (.lK od kws kvs)) es) ∨
  ∃ kvs, M d = some (.dT kvs) ∧ ∀ od kws, ς (lkD D d (.lT od kws kvs) (.dT kvs)) (mput M d (.lT od kws kvs)) es
theorem pds_lock {X : Cx} {st : Stmt} {ς : DS} (h : PDS X st ς) : PDS X st (dLockS ς) := psI (ps_lock h) fun D σ H hq => by
  obtain ⟨F, M, es, D', hs, he, ⟨d, ht⟩, hf⟩ := hq
  rcases ht with ⟨kvs, hM, ht⟩ | ⟨kvs, hM, ht⟩
  · obtain ⟨kws, h1, h2⟩ := (show ∃ kws, H d = some (.dK kws) ∧ KS X.K F kws kvs from hs.ok _ _ hM)
    refine ⟨d, .dK kws, h1, trivial, fun od => ?_⟩
    have un : ∀ {M' : MHp} {F' H' : Hp}, M' d = some (.lK od kws kvs) → Hs X.K F' M' H' → H' d = some (.frz od (.dK kws)) ∧ Hs X.K F' (mput M' d (.dK kvs)) (upd H' d (.dK kws)) := fun {M' F' H'} g1 hs1 => by
      obtain ⟨g3, g4⟩ := (show H' d = some (.frz od (.dK kws)) ∧ KS X.K F' kws kvs from hs1.ok _ _ g1)
      exact ⟨g3, hs1.set (o := .dK kvs) g1 ⟨kws, upd_same, g4⟩⟩
    refine ⟨F, _, es, _, hs.set (o := .lK od kws kvs) hM ⟨upd_same, h2⟩, he, ht od kws, ⟨?_, ?_, ?_, ?_⟩⟩
    · rintro M' es' F' σ' H' ⟨g1, g2⟩ e1 hs1 he1
      obtain ⟨q1, q2⟩ := un g1 hs1
      exact ⟨q1, hf.nx _ _ F' _ _ g2 e1 q2 he1⟩
    · rintro M' s F' H' v ⟨g1, g2⟩ e1 hs1 r1
      obtain ⟨q1, q2⟩ := un g1 hs1
      exact ⟨q1, hf.rt _ _ F' _ v g2 e1 q2 r1⟩
    · rintro M' es' F' σ' H' ⟨g1, g2⟩ e1 hs1 he1
      obtain ⟨q1, q2⟩ := un g1 hs1
      exact ⟨q1, hf.bk _ _ F' _ _ g2 e1 q2 he1⟩
    · rintro M' es' F' σ' H' ⟨g1, g2⟩ e1 hs1 he1
      obtain ⟨q1, q2⟩ := un g1 hs1
      exact ⟨q1, hf.ct _ _ F' _ _ g2 e1 q2 he1⟩
  · obtain ⟨kws, h1, h2⟩ := (show ∃ kws, H d = some (.dT kws) ∧ KS X.K F kws kvs from hs.ok _ _ hM)
    refine ⟨d, .dT kws, h1, trivial, fun od => ?_⟩
    have un : ∀ {M' : MHp} {F' H' : Hp}, M' d = some (.lT od kws kvs) → Hs X.K F' M' H' → H' d = some (.frz od (.dT kws)) ∧ Hs X.K F' (mput M' d (.dT kvs)) (upd H' d (.dT kws)) := fun {M' F' H'} g1 hs1 => by
      obtain ⟨g3, g4⟩ := (show H' d = some (.frz od (.dT kws)) ∧ KS X.K F' kws kvs from hs1.ok _ _ g1)
      exact ⟨g3, hs1.set (o := .dT kvs) g1 ⟨kws, upd_same, g4⟩⟩
    refine ⟨F, _, es, _, hs.set (o := .lT od kws kvs) hM ⟨upd_same, h2⟩, he, ht od kws, ⟨?_, ?_, ?_, ?_⟩⟩
    · rintro M' es' F' σ' H' ⟨g1, g2⟩ e1 hs1 he1
      obtain ⟨q1, q2⟩ := un g1 hs1
      exact ⟨q1, hf.nx _ _ F' _ _ g2 e1 q2 he1⟩
    · rintro M' s F' H' v ⟨g1, g2⟩ e1 hs1 r1
      obtain ⟨q1, q2⟩ := un g1 hs1
      exact ⟨q1, hf.rt _ _ F' _ v g2 e1 q2 r1⟩
    · rintro M' es' F' σ' H' ⟨g1, g2⟩ e1 hs1 he1
      obtain ⟨q1, q2⟩ := un g1 hs1
      exact ⟨q1, hf.bk _ _ F' _ _ g2 e1 q2 he1⟩
    · rintro M' es' F' σ' H' ⟨g1, g2⟩ e1 hs1 he1
      obtain ⟨q1, q2⟩ := un g1 hs1
      exact ⟨q1, hf.ct _ _ F' _ _ g2 e1 q2 he1⟩
end DL
set_option Elab.async false
set_option linter.all false
set_option autoImplicit false
set_option maxRecDepth 100000
set_option maxHeartbeats 4000000
namespace Lst
open PySem PySem.Spec PyProof.Rows L2 DL
/-! ### the table of longest common rows -/
def lt (R O : List Str) : Nat → Nat → Nat
  | 0, _ => 0
  | _ + 1, 0 => 0
  | i + 1, j + 1 => if R[i]? = O[j]? then lt R O i j + 1 else max (lt R O i (j + 1)) (lt R O (i + 1) j)
termination_by i j => (i, j)
theorem lt_0 (R O : List Str) (j : Nat) : lt R O 0 j = 0 := by rw [lt]
theorem lt_i0 (R O : List Str) (i : Nat) : lt R O i 0 = 0 := by cases i <;> rw [lt]
theorem lt_ss (R O : List Str) (i j : Nat) : lt R O (i + 1) (j + 1) = if R[i]? = O[j]? then lt R O i j + 1 else max (lt R O i (j + 1)) (lt R O (i + 1) j) := by rw [lt]
/-- from behind -/
def lb (R O : List Str) (i j : Nat) : Nat := lt R.reverse O.reverse (R.length - i) (O.length - j)
abbrev tx (R : List Str) : List PyData := R.map PyData.str
structure TxOk (R : List Str) : Prop where
  few : R.length ≤ 1000
  ok : ∀ t ∈ R, SeqAt.shaped (.str t) = true
def rowD (m : Nat) (f : Nat → Nat) : PyData := .list ((List.range (m + 1)).map fun j => .int (f j))
def tabD (n m : Nat) (f : Nat → Nat → Nat) : PyData := .list ((List.range (n + 1)).map fun i => rowD m (f i))
theorem TxOk.rev {R : List Str} (h : TxOk R) : TxOk R.reverse := ⟨by rw [List.length_reverse]; exact h.few, fun t ht => h.ok t (List.mem_reverse.mp ht)⟩
theorem atI_at {α : Type} {xs : List α} {i : Nat} {x : α} (h : xs[i]? = some x) : atI xs (i : Int) = some x := by
  have hl : i < xs.length := (List.getElem?_eq_some_iff.mp h).1
  unfold atI ixN
  rw [if_pos (by omega), if_pos (by omega)]
  simpa using h
theorem atI_end {α : Type} {xs : List α} {x : α} : atI (xs ++ [x]) (-1) = some x := by
  unfold atI ixN
  rw [if_neg (by omega), if_pos (by simp; omega)]
  have e : ((-1 : Int) + ((xs ++ [x]).length : Nat)).toNat = xs.length := by simp; omega
  simp only [Option.bind_some, e]
  simp
theorem shaped_int (i : Int) : SeqAt.shaped (.int i) = true := by simp [SeqAt.shaped, PyData.canLay0, PyData.depth]
theorem eqv_str (x y : Str) : PyData.eqv (.str x) (.str y) = decide (x = y) := by
  simp only [PyData.eqv]
  by_cases h : x = y
  · subst h; simp
  · simp [h]
theorem eqv_int (x y : Int) : PyData.eqv (.int x) (.int y) = decide (x = y) := by
  simp only [PyData.eqv]
  by_cases h : x = y
  · subst h; simp
  · simp [h]
theorem tx_get {R : List Str} {i : Nat} (h : i < R.length) : (tx R).getD i .none = .str R[i] := by
  simp [List.getD_eq_getElem?_getD, h]
theorem sz {n : Nat} (h : n ≤ 10000000) : n ≤ sizeLine := by rw [sizeLine_eq]; omega
theorem szl {n : Nat} (h : n ≤ 10000000) : n < sizeLine := by rw [sizeLine_eq]; omega
end Lst
namespace Lst
open PySem PySem.Spec PyProof.Rows L2 DL
/-! ### rising rows of like pairs -/
section
variable {R O : List Str}
inductive Up (R O : List Str) : Nat → Nat → List (Nat × Nat) → Prop
  | nil {i j : Nat} : Up R O i j []
  | snoc {i j a b : Nat} {ps : List (Nat × Nat)} : Up R O a b ps → a < i → b < j → R[a]? = O[b]? → Up R O i j (ps ++ [(a, b)])
theorem Up.mono {i j i' j' : Nat} {ps : List (Nat × Nat)} (h : Up R O i j ps) (hi : i ≤ i') (hj : j ≤ j') : Up R O i' j' ps := by
  cases h with
  | nil => exact .nil
  | snoc u h1 h2 h3 => exact .snoc u (by omega) (by omega) h3
theorem up_le : ∀ (i j : Nat) {ps : List (Nat × Nat)}, Up R O i j ps → ps.length ≤ lt R O i j
  | 0, j, ps, h => by
    cases h with
    | nil => simp
    | snoc _ h1 _ _ => omega
  | i + 1, 0, ps, h => by
    cases h with
    | nil => simp
    | snoc _ _ h1 _ => omega
  | i + 1, j + 1, ps, h => by
    rw [lt_ss]
    cases h with
    | nil => simp
    | @snoc _ _ a b qs u h1 h2 h3 =>
      by_cases e : R[i]? = O[j]?
      · rw [if_pos e]
        have := up_le i j (u.mono (by omega) (by omega))
        simp; omega
      · rw [if_neg e]
        by_cases ha : a < i
        · have := up_le i (j + 1) (Up.snoc u ha h2 h3)
          simp at this ⊢; omega
        · by_cases hb : b < j
          · have := up_le (i + 1) j (Up.snoc u h1 hb h3)
            simp at this ⊢; omega
          · have e1 : a = i := by omega
            have e2 : b = j := by omega
            subst e1 e2
            exact absurd h3 e
termination_by i j => (i, j)
theorem up_ex : ∀ (i j : Nat), ∃ ps, Up R O i j ps ∧ ps.length = lt R O i j
  | 0, j => ⟨[], .nil, by rw [lt_0]; rfl⟩
  | i + 1, 0 => ⟨[], .nil, by rw [lt_i0]; rfl⟩
  | i + 1, j + 1 => by
    rw [lt_ss]
    by_cases e : R[i]? = O[j]?
    · rw [if_pos e]
      obtain ⟨ps, h1, h2⟩ := up_ex i j
      exact ⟨ps ++ [(i, j)], .snoc h1 (by omega) (by omega) e, by simp [h2]⟩
    · rw [if_neg e]
      obtain ⟨ps, h1, h2⟩ := up_ex i (j + 1)
      obtain ⟨qs, h3, h4⟩ := up_ex (i + 1) j
      by_cases hm : lt R O i (j + 1) ≤ lt R O (i + 1) j
      · exact ⟨qs, h3.mono (by omega) (by omega), by omega⟩
      · exact ⟨ps, h1.mono (by omega) (by omega), by omega⟩
termination_by i j => (i, j)
theorem lt_mono {i j i' j' : Nat} (hi : i ≤ i') (hj : j ≤ j') : lt R O i j ≤ lt R O i' j' := by
  obtain ⟨ps, h1, h2⟩ := up_ex (R := R) (O := O) i j
  rw [← h2]
  exact up_le i' j' (h1.mono hi hj)
/-- from a place on -/
inductive Dn (R O : List Str) : Nat → Nat → List (Nat × Nat) → Prop
  | nil {i j : Nat} : Dn R O i j []
  | cons {i j a b : Nat} {ps : List (Nat × Nat)} : i ≤ a → j ≤ b → a < R.length → b < O.length → R[a]? = O[b]? → Dn R O (a + 1) (b + 1) ps → Dn R O i j ((a, b) :: ps)
theorem Dn.mono {i j i' j' : Nat} {ps : List (Nat × Nat)} (h : Dn R O i j ps) (hi : i' ≤ i) (hj : j' ≤ j) : Dn R O i' j' ps := by
  cases h with
  | nil => exact .nil
  | cons h1 h2 h3 h4 h5 h6 => exact .cons (by omega) (by omega) h3 h4 h5 h6
theorem rev_at {l : List Str} {a : Nat} (h : a < l.length) : l.reverse[l.length - 1 - a]? = l[a]? := by
  rw [List.getElem?_reverse (by omega)]
  congr 1; omega
theorem dn_up {i j : Nat} {ps : List (Nat × Nat)} (h : Dn R O i j ps) : ∃ qs, Up R.reverse O.reverse (R.length - i) (O.length - j) qs ∧ qs.length = ps.length := by
  induction h with
  | nil => exact ⟨[], .nil, rfl⟩
  | @cons i j a b ps h1 h2 h3 h4 h5 h6 ih =>
    obtain ⟨qs, u, hl⟩ := ih
    refine ⟨qs ++ [(R.length - 1 - a, O.length - 1 - b)], .snoc (a := R.length - 1 - a) (b := O.length - 1 - b) ?_ (by omega) (by omega) (by rw [rev_at h3, rev_at h4]; exact h5), by simp [hl]⟩
    exact u.mono (by omega) (by omega)
theorem up_dn {i j : Nat} {qs : List (Nat × Nat)} (h : Up R.reverse O.reverse i j qs) : i ≤ R.length → j ≤ O.length → ∀ ps, Dn R O (R.length - i) (O.length - j) ps → True := fun _ _ _ _ => trivial
theorem up_dn_app {i j : Nat} {qs : List (Nat × Nat)} (h : Up R.reverse O.reverse i j qs) : i ≤ R.length → j ≤ O.length → ∃ ps, Dn R O (R.length - i) (O.length - j) ps ∧ ps.length = qs.length := by
  induction h with
  | nil => exact fun _ _ => ⟨[], .nil, rfl⟩
  | @snoc i j a b ps u h1 h2 h3 ih =>
    intro hi hj
    obtain ⟨qs, d, hl⟩ := ih (by omega) (by omega)
    have e1 : R.reverse[a]? = R[R.length - 1 - a]? := by rw [List.getElem?_reverse (by omega)]
    have e2 : O.reverse[b]? = O[O.length - 1 - b]? := by rw [List.getElem?_reverse (by omega)]
    refine ⟨(R.length - 1 - a, O.length - 1 - b) :: qs, .cons (by omega) (by omega) (by omega) (by omega) (by rw [← e1, ← e2]; exact h3) (d.mono (by omega) (by omega)), by simp [hl]⟩
theorem dn_le {i j : Nat} {ps : List (Nat × Nat)} (h : Dn R O i j ps) : ps.length ≤ lb R O i j := by
  obtain ⟨qs, u, hl⟩ := dn_up h
  rw [← hl]
  exact up_le _ _ u
theorem dn_ex {i j : Nat} (hi : i ≤ R.length) (hj : j ≤ O.length) : ∃ ps, Dn R O i j ps ∧ ps.length = lb R O i j := by
  obtain ⟨qs, u, hl⟩ := up_ex (R := R.reverse) (O := O.reverse) (R.length - i) (O.length - j)
  obtain ⟨ps, d, hl2⟩ := up_dn_app u (by omega) (by omega)
  exact ⟨ps, d.mono (by omega) (by omega), by rw [hl2, hl]; rfl⟩
theorem Dn.swap {i j : Nat} {ps : List (Nat × Nat)} (h : Dn R O i j ps) : Dn O R j i (ps.map Prod.swap) := by
  induction h with
  | nil => exact .nil
  | cons h1 h2 h3 h4 h5 h6 ih => exact .cons h2 h1 h4 h3 h5.symm ih
theorem lb_swap : lb R O 0 0 = lb O R 0 0 := by
  apply Nat.le_antisymm
  · obtain ⟨ps, d, hl⟩ := dn_ex (R := R) (O := O) (Nat.zero_le _) (Nat.zero_le _)
    rw [← hl, ← List.length_map (f := Prod.swap)]
    exact dn_le d.swap
  · obtain ⟨ps, d, hl⟩ := dn_ex (R := O) (O := R) (Nat.zero_le _) (Nat.zero_le _)
    rw [← hl, ← List.length_map (f := Prod.swap)]
    exact dn_le d.swap
end
/-! ### the pairs that are kept -/
def cond (R O : List Str) (here there one other : Nat) : Bool := decide (R[one]? = O[other]?) && (decide (0 < lb R O here there) && decide (1 + lb R O (one + 1) (other + 1) = lb R O here there))
def pick (R O : List Str) (here there one : Nat) : Option Nat := ((List.range (O.length - there)).map (there + ·)).find? (cond R O here there one)
structure KS3 where
  h : Nat
  t : Nat
  f : List (Nat × Nat)
def kstep (R O : List Str) (st : KS3) (one : Nat) : KS3 := match pick R O st.h st.t one with
  | some other => ⟨one + 1, other + 1, st.f ++ [(one, other)]⟩
  | none => st
def kst (R O : List Str) (n : Nat) : KS3 := (List.range n).foldl (kstep R O) ⟨0, 0, []⟩
def kp (R O : List Str) : List (Nat × Nat) := (kst R O R.length).f
theorem kst_succ (R O : List Str) (n : Nat) : kst R O (n + 1) = kstep R O (kst R O n) n := by
  unfold kst; rw [List.range_succ, List.foldl_append]; rfl
theorem find_range {p : Nat → Bool} {t n : Nat} : (∀ b, ((List.range n).map (t + ·)).find? p = some b → t ≤ b ∧ b < t + n ∧ p b = true ∧ ∀ c, t ≤ c → c < b → p c = false) ∧ (((List.range n).map (t + ·)).find? p = none → ∀ c, t ≤ c → c < t + n → p c = false) := by
  induction n with
  | zero => exact ⟨fun b h => by simp at h, fun _ c h1 h2 => by omega⟩
  | succ n ih =>
    rw [List.range_succ, List.map_append, List.find?_append]
    cases e : ((List.range n).map (t + ·)).find? p with
    | some b =>
      refine ⟨fun c h => ?_, fun h => by simp at h⟩
      simp at h
      subst h
      obtain ⟨h1, h2, h3, h4⟩ := ih.1 b e
      exact ⟨h1, by omega, h3, h4⟩
    | none =>
      have hn := ih.2 e
      by_cases hp : p (t + n) = true
      · refine ⟨fun c h => ?_, fun h => by simp [hp] at h⟩
        simp [hp] at h
        subst h
        exact ⟨by omega, by omega, hp, fun c h1 h2 => hn c h1 h2⟩
      · refine ⟨fun c h => by simp [hp] at h, fun _ c h1 h2 => ?_⟩
        by_cases hc : c < t + n
        · exact hn c h1 hc
        · have : c = t + n := by omega
          subst this
          simpa using hp
theorem pick_some {R O : List Str} {h t one b : Nat} (e : pick R O h t one = some b) : t ≤ b ∧ b < O.length ∧ cond R O h t one b = true ∧ ∀ c, t ≤ c → c < b → cond R O h t one c = false := by
  obtain ⟨h1, h2, h3, h4⟩ := find_range.1 b e
  exact ⟨h1, by omega, h3, h4⟩
theorem pick_none {R O : List Str} {h t one : Nat} (e : pick R O h t one = none) : ∀ c, t ≤ c → c < O.length → cond R O h t one c = false := fun c h1 h2 => find_range.2 e c h1 (by omega)
end Lst
set_option Elab.async false
set_option linter.all false
set_option autoImplicit false
set_option maxRecDepth 100000
set_option maxHeartbeats 4000000
namespace Lst
open PySem PySem.Spec PyProof.Rows L2 DL
/-- the order of rows of pairs -/
def lexB : List (Nat × Nat) → List (Nat × Nat) → Bool
  | [], [] => false
  | [], _ :: _ => true
  | _ :: _, [] => false
  | p :: ps, q :: qs => if p = q then lexB ps qs else decide (p.1 < q.1 ∨ (p.1 = q.1 ∧ p.2 < q.2))
theorem lex_irr : ∀ p : List (Nat × Nat), lexB p p = false
  | [] => rfl
  | p :: ps => by simp [lexB, lex_irr ps]
theorem lex_asym : ∀ p q : List (Nat × Nat), lexB p q = true → lexB q p = false
  | [], [], h => by simp [lexB] at h
  | [], _ :: _, _ => rfl
  | _ :: _, [], h => by simp [lexB] at h
  | (a, b) :: ps, (c, d) :: qs, h => by
    unfold lexB at h ⊢
    by_cases e : (a, b) = (c, d)
    · rw [if_pos e] at h; rw [if_pos e.symm]; exact lex_asym ps qs h
    · rw [if_neg e] at h; rw [if_neg (fun z => e z.symm)]
      simp only [decide_eq_true_eq, decide_eq_false_iff_not] at h ⊢
      omega
/-- p ≤ q -/
def leB (p q : List (Nat × Nat)) : Prop := p = q ∨ lexB p q = true
theorem lex_app : ∀ {p q : List (Nat × Nat)} (r s : List (Nat × Nat)), p.length = q.length → lexB p q = true → lexB (p ++ r) (q ++ s) = true
  | [], [], _, _, _, h => by simp [lexB] at h
  | [], _ :: _, _, _, hl, _ => by simp at hl
  | _ :: _, [], _, _, hl, _ => by simp at hl
  | p :: ps, q :: qs, r, s, hl, h => by
    unfold lexB at h
    show lexB (p :: (ps ++ r)) (q :: (qs ++ s)) = true
    unfold lexB
    by_cases e : p = q
    · rw [if_pos e] at h ⊢; exact lex_app r s (by simpa using hl) h
    · rw [if_neg e] at h ⊢; exact h
theorem lex_pre : ∀ (p r s : List (Nat × Nat)), lexB (p ++ r) (p ++ s) = lexB r s
  | [], _, _ => rfl
  | p :: ps, r, s => by
    have e : lexB (p :: (ps ++ r)) (p :: (ps ++ s)) = lexB (ps ++ r) (ps ++ s) := by simp [lexB]
    exact e.trans (lex_pre ps r s)
section
variable {R O : List Str}
structure KInv (R O : List Str) (n : Nat) (st : KS3) : Prop where
  hh : st.h ≤ n
  ht : st.t ≤ O.length
  ext : ∀ r, Dn R O st.h st.t r → Dn R O 0 0 (st.f ++ r)
  len : st.f.length + lb R O st.h st.t = lb R O 0 0
  fst : ∀ a b r, Dn R O st.h st.t ((a, b) :: r) → r.length + 1 = lb R O st.h st.t → n ≤ a
  least : ∀ qs, Dn R O 0 0 qs → qs.length = lb R O 0 0 → (∃ r, qs = st.f ++ r ∧ Dn R O st.h st.t r) ∨ ∃ p r, qs = p ++ r ∧ p.length = st.f.length ∧ lexB st.f p = true
theorem dn_cond {h t one b : Nat} {r : List (Nat × Nat)} (hh : h ≤ one) (hn : one < R.length) (d : Dn R O h t ((one, b) :: r)) (hl : r.length + 1 = lb R O h t) : t ≤ b ∧ b < O.length ∧ cond R O h t one b = true := by
  cases d with
  | cons h1 h2 h3 h4 h5 h6 =>
    refine ⟨h2, h4, ?_⟩
    have l1 := dn_le h6
    obtain ⟨ps, d2, l2⟩ := dn_ex (R := R) (O := O) (i := one + 1) (j := b + 1) (by omega) (by omega)
    have l3 := dn_le (Dn.cons h1 h2 h3 h4 h5 d2)
    simp at l3
    unfold cond
    rw [decide_eq_true h5, decide_eq_true (show 0 < lb R O h t by omega), decide_eq_true (show 1 + lb R O (one + 1) (b + 1) = lb R O h t by omega)]
    rfl
theorem kinv : ∀ n, n ≤ R.length → KInv R O n (kst R O n)
  | 0, _ => by
    refine ⟨Nat.le_refl _, Nat.zero_le _, fun r d => d, by show 0 + lb R O 0 0 = _; omega, fun _ _ _ _ _ => Nat.zero_le _, fun qs d _ => .inl ⟨qs, rfl, d⟩⟩
  | n + 1, hn => by
    have ih := kinv n (by omega)
    rw [kst_succ]
    generalize kst R O n = st at ih
    unfold kstep
    cases e : pick R O st.h st.t n with
    | none =>
      have hno := pick_none e
      refine ⟨Nat.le_succ_of_le ih.hh, ih.ht, ih.ext, ih.len, fun a b r d hl => ?_, ih.least⟩
      have h1 := ih.fst a b r d hl
      by_cases ha : a = n
      · subst ha
        obtain ⟨h2, h3, h4⟩ := dn_cond ih.hh (by omega) d hl
        rw [hno b h2 h3] at h4; cases h4
      · omega
    | some b =>
      obtain ⟨h1, h2, h3, h4⟩ := pick_some e
      have h3' := h3
      unfold cond at h3
      simp only [Bool.and_eq_true, decide_eq_true_eq] at h3
      obtain ⟨c1, c2, c3⟩ := h3
      have hlen := ih.len
      refine ⟨Nat.le_refl _, by show b + 1 ≤ _; omega, fun r d => ?_, ?_, fun a c r d hl => ?_, fun qs d hl => ?_⟩
      · show Dn R O 0 0 (st.f ++ [(n, b)] ++ r)
        rw [List.append_assoc]
        exact ih.ext _ (.cons ih.hh h1 (by omega) h2 c1 d)
      · show (st.f ++ [(n, b)]).length + lb R O (n + 1) (b + 1) = _
        simp; omega
      · cases d with
        | cons g1 _ _ _ _ _ => exact g1
      · rcases ih.least qs d hl with ⟨r, rfl, dr⟩ | ⟨p, r, rfl, hp, hlt⟩
        · have lr : r.length = lb R O st.h st.t := by simp at hl; omega
          cases r with
          | nil => simp at lr; omega
          | cons q r =>
            obtain ⟨a, c⟩ := q
            have lr' : r.length + 1 = lb R O st.h st.t := by simpa using lr
            have ha := ih.fst a c r dr lr'
            by_cases hane : a = n
            · subst hane
              obtain ⟨g1, g2, g3⟩ := dn_cond ih.hh (by omega) dr lr'
              by_cases hb : c = b
              · subst hb
                refine .inl ⟨r, by simp, ?_⟩
                cases dr with
                | cons _ _ _ _ _ d6 => exact d6
              · have hbc : b < c := by
                  by_cases hlt : c < b
                  · rw [h4 c g1 hlt] at g3; cases g3
                  · omega
                refine .inr ⟨st.f ++ [(a, c)], r, by simp, by simp, ?_⟩
                show lexB (st.f ++ [(a, b)]) _ = true
                rw [lex_pre]
                unfold lexB
                rw [if_neg (by simp; omega)]
                simp; omega
            · refine .inr ⟨st.f ++ [(a, c)], r, by simp, by simp, ?_⟩
              show lexB (st.f ++ [(n, b)]) _ = true
              rw [lex_pre]
              unfold lexB
              rw [if_neg (by simp; omega)]
              simp; omega
        · cases r with
          | nil =>
            simp at hl; omega
          | cons q r =>
            refine .inr ⟨p ++ [q], r, by simp, by simp [hp], ?_⟩
            exact lex_app _ _ hp.symm hlt
/-- what is kept: a longest rising row, the least of all these -/
theorem kp_len : (kp R O).length = lb R O 0 0 := by
  have k := kinv (R := R) (O := O) R.length (Nat.le_refl _)
  have hl := k.len
  obtain ⟨ps, d, hps⟩ := dn_ex (R := R) (O := O) k.hh k.ht
  cases ps with
  | nil => simp at hps; unfold kp; omega
  | cons p r =>
    obtain ⟨a, b⟩ := p
    have h1 := k.fst a b r d (by simpa using hps)
    cases d with
    | cons _ _ h3 _ _ _ => omega
theorem kp_dn : Dn R O 0 0 (kp R O) := by
  have k := kinv (R := R) (O := O) R.length (Nat.le_refl _)
  have := k.ext [] .nil
  rw [List.append_nil] at this
  exact this
theorem kp_least {qs : List (Nat × Nat)} (d : Dn R O 0 0 qs) (hl : qs.length = lb R O 0 0) : qs = kp R O ∨ lexB (kp R O) qs = true := by
  have k := kinv (R := R) (O := O) R.length (Nat.le_refl _)
  have hk := kp_len (R := R) (O := O)
  rcases k.least qs d hl with ⟨r, h1, h2⟩ | ⟨p, r, h1, h2, h3⟩
  · have : r.length = 0 := by
      have := congrArg List.length h1
      rw [List.length_append, hl] at this
      have e : (kst R O R.length).f.length = lb R O 0 0 := hk
      omega
    have : r = [] := List.eq_nil_of_length_eq_zero this
    subst this
    rw [List.append_nil] at h1
    exact .inl h1
  · have : r.length = 0 := by
      have := congrArg List.length h1
      rw [List.length_append, hl, h2] at this
      have e : (kst R O R.length).f.length = lb R O 0 0 := hk
      omega
    have : r = [] := List.eq_nil_of_length_eq_zero this
    subst this
    rw [List.append_nil] at h1
    subst h1
    exact .inr h3
theorem kst_bounds {n : Nat} (hn : n ≤ R.length) : (kst R O n).h ≤ n ∧ (kst R O n).t ≤ O.length ∧ (kst R O n).f.length ≤ n := by
  refine ⟨(kinv n hn).hh, (kinv n hn).ht, ?_⟩
  clear hn
  induction n with
  | zero => simp [kst]
  | succ n ih =>
    rw [kst_succ]
    unfold kstep
    split
    · simp; omega
    · omega
end
end Lst
set_option Elab.async false
set_option linter.all false
set_option autoImplicit false
namespace Lst
open PySem PySem.Spec PyProof.Rows L2 DL
def prN (p : Nat × Nat) : PyData := .tuple [.int p.1, .int p.2]
def prs (ps : List (Nat × Nat)) : List PyData := ps.map prN
def φ_common_ahead : DF := fun M ss post => ∃ R O, ss = [.d (.list (tx R)), .d (.list (tx O))] ∧ TxOk R ∧ TxOk O ∧ post M (.d (tabD R.length O.length (lt R O)))
def φ_common_behind : DF := fun M ss post => ∃ R O, ss = [.d (.list (tx R)), .d (.list (tx O))] ∧ TxOk R ∧ TxOk O ∧ post M (.d (tabD R.length O.length (lb R O)))
def φ_kept_pairs : DF := fun M ss post => ∃ R O, ss = [.d (.list (tx R)), .d (.list (tx O))] ∧ TxOk R ∧ TxOk O ∧ ∀ p, M p = none → post (mput M p (.lst ((prs (kp R O)).map Sl.d))) (.m p)
/-- the like pairs of a level, in order, below a place -/
def lvl (R O : List Str) (k n m : Nat) : List (Nat × Nat) := (List.range n).flatMap fun a => ((List.range m).filter fun b => decide (R[a]? = O[b]?) && decide (lt R O a b = k)).map fun b => (a, b)
structure LvAt (M M' : MHp) (b : Addr) (cs : List Addr) (f : Nat → List (Nat × Nat)) : Prop where
  nb : M b = none
  nd : cs.Nodup
  nc : ∀ c ∈ cs, M c = none ∧ c ≠ b
  old : ∀ a, a ≠ b → a ∉ cs → M' a = M a
  at_b : M' b = some (.lst (cs.map Sl.m))
  at_c : ∀ k c, cs[k]? = some c → M' c = some (.lst ((prs (f k)).map Sl.d))
def φ_pair_levels : DF := fun M ss post => ∃ R O, ss = [.d (.list (tx R)), .d (.list (tx O))] ∧ TxOk R ∧ TxOk O ∧ ∀ M' b cs, cs.length = lt R O R.length O.length → LvAt M M' b cs (fun k => lvl R O k R.length O.length) → post M' (.m b)
def φ_least_change : DF := fun M ss post => ∃ R O, ss = [.d (.list (tx R)), .d (.list (tx O))] ∧ TxOk R ∧ TxOk O ∧ ∀ M' p b cs, M p = none → cs.length = lt R O R.length O.length → LvAt (mput M p (.lst ((prs (kp R O)).map Sl.d))) M' b cs (fun k => lvl R O k R.length O.length) → post M' (.t [.m p, .m b])
def φ_least_cost : DF := fun M ss post => ∃ R O, ss = [.d (.list (tx R)), .d (.list (tx O))] ∧ TxOk R ∧ TxOk O ∧ ∀ p o, M p = none → post (mput M p o) (.d (.int ((R.length : Int) + O.length - 2 * (kp R O).length)))
/-! ### the law's draws -/
structure DSt (M : MHp) (m r : Addr) (ns : List Int) (k : Nat) : Prop where
  ne : m ≠ r
  md : M m = some (.dK [(.inr "script", .s ns), (.inr "at", .d (.int k)), (.inr "rest", .m r)])
  rs : ∃ rs : List Int, rs.length = ns.length ∧ M r = some (.lst ((rs.map PyData.int).map Sl.d))
def Off (M M' : MHp) (m r : Addr) : Prop := ∀ a, a ≠ m → a ≠ r → M' a = M a
def φ__law_started : DF := fun M ss post => ∃ ns : List Int, ss = [.s ns] ∧ ns.length ≤ 63 ∧ ∀ M' m r, DSt M' m r ns 0 → M m = none → M r = none → Off M M' m r → post M' (.m m)
def φ__law_draw : DF := fun M ss post => ∃ m r ns k many, ss = [.m m, .d (.int many)] ∧ DSt M m r ns k ∧ 0 < many ∧ many < 2 ^ 60 ∧ k < 2 ^ 30 ∧ ns.length ≤ 63 ∧ ∀ M' v, DSt M' m r ns (k + 1) → Off M M' m r → 0 ≤ v → v < many → post M' (.d (.int v))
def φ__law_of : DF := fun M ss post => ∃ m r ns k ds, ss = [.m m, .d (.list ds)] ∧ DSt M m r ns k ∧ 0 < ds.length ∧ ds.length ≤ 1000 ∧ k < 2 ^ 30 ∧ ns.length ≤ 63 ∧ ∀ M' d, DSt M' m r ns (k + 1) → Off M M' m r → d ∈ ds → post M' (.d d)
def Sh : Nat → PyData → Prop
  | 0, x => ∃ i, x = .int i
  | n + 1, x => Sh n x ∨ ∃ xs, (x = .list xs ∨ x = .tuple xs) ∧ xs.length ≤ 100000 ∧ ∀ y ∈ xs, Sh n y
theorem Sh.ok : ∀ {n : Nat} {x : PyData}, Sh n x → x.canLay0 = true ∧ x.depth ≤ n
  | 0, _, ⟨i, rfl⟩ => ⟨rfl, Nat.le_refl _⟩
  | n + 1, x, h => by
    rcases h with h | ⟨xs, hx, _, h⟩
    · have := h.ok; exact ⟨this.1, by omega⟩
    · have key : PyData.canLayAll0 xs = true ∧ PyData.depthAll xs ≤ n := by
        clear hx
        induction xs with
        | nil => exact ⟨rfl, Nat.zero_le _⟩
        | cons y ys ih =>
          obtain ⟨h1, h2⟩ := (h y (List.mem_cons_self ..)).ok
          obtain ⟨h3, h4⟩ := ih (by simp at *; omega) fun z hz => h z (List.mem_cons_of_mem _ hz)
          simp [PyData.canLayAll0, PyData.depthAll, h1, h3]
          omega
      rcases hx with rfl | rfl
      · exact ⟨by simp [PyData.canLay0, key.1], by simp [PyData.depth]; omega⟩
      · exact ⟨by simp [PyData.canLay0, key.1], by simp [PyData.depth]; omega⟩
theorem Sh.shaped {n : Nat} {x : PyData} (h : Sh n x) (hn : n ≤ 64) : SeqAt.shaped x = true := by
  obtain ⟨h1, h2⟩ := h.ok
  unfold SeqAt.shaped
  rw [h1, decide_eq_true (by omega)]; rfl
theorem sh_int (i : Int) : Sh 0 (.int i) := ⟨i, rfl⟩
theorem sh_pr (p : Nat × Nat) : Sh 1 (prN p) := .inr ⟨_, .inr rfl, by simp, by simp; exact ⟨sh_int _, sh_int _⟩⟩
theorem sh_prs {ps : List (Nat × Nat)} (h : ps.length ≤ 100000) : Sh 2 (.list (prs ps)) := .inr ⟨_, .inl rfl, by simpa [prs] using h, fun y hy => by
  obtain ⟨p, _, rfl⟩ := List.mem_map.mp hy
  exact sh_pr p⟩
theorem sh_ints {ns : List Int} (h : ns.length ≤ 100000) : Sh 1 (.list (ns.map PyData.int)) := .inr ⟨_, .inl rfl, by simpa using h, fun y hy => by
  obtain ⟨p, _, rfl⟩ := List.mem_map.mp hy
  exact sh_int p⟩
/-- data, through mutable lists -/
def DV : Nat → MHp → Sl → PyData → Prop
  | 0, _, s, x => s = .d x
  | n + 1, M, s, x => s = .d x ∨ ∃ a ss ds, s = .m a ∧ x = .list ds ∧ M a = some (.lst ss) ∧ ss.length = ds.length ∧ ∀ i, i < ds.length → DV n M (ss.getD i .n) (ds.getD i .none)
def alikeN (n : Nat) : DF := fun M ss post => ∃ s x, ss = [s, .d x] ∧ DV n M s x ∧ Sh n x ∧ post M (.d (.bool true))
def φ__law_alike : DF := alikeN 3
def φ__law_rows : DF := fun M ss post => ∃ m r ns k, ss = [.m m] ∧ DSt M m r ns k ∧ k < 2 ^ 20 ∧ ns.length ≤ 63 ∧ ∀ M' R O k', TxOk R → TxOk O → R.length ≤ 12 → O.length ≤ 12 → DSt M' m r ns k' → k' ≤ k + 60 → post M' (.d (.tuple [.list (tx R), .list (tx O)]))
/-- all like pairs, with the length of the longest row that ends there -/
def likes (R O : List Str) (n m : Nat) : List (Nat × Nat) := (List.range n).flatMap fun a => ((List.range m).filter fun b => decide (R[a]? = O[b]?)).map fun b => (a, b)
def entS (R O : List Str) (p : Nat × Nat) : List Key × Sl := ([.inl p.1, .inl p.2], .d (.int ((lt R O p.1 p.2 : Nat) + 1)))
def φ__law_ends : DF := fun M ss post => ∃ R O, ss = [.d (.list (tx R)), .d (.list (tx O))] ∧ TxOk R ∧ TxOk O ∧ R.length ≤ 20 ∧ O.length ≤ 20 ∧ ∀ p, M p = none → post (mput M p (.dT ((likes R O R.length O.length).map (entS R O)))) (.m p)
def Ext (M M' : MHp) : Prop := ∀ a o, M a = some o → M' a = some o
def φ__law_right : DF := fun M ss post => ∃ R O, ss = [.d (.list (tx R)), .d (.list (tx O))] ∧ TxOk R ∧ TxOk O ∧ R.length ≤ 20 ∧ O.length ≤ 20 ∧ ∀ M', Ext M M' → post M' (.d (.bool true))
def φ_law : DF := fun M ss post => ∃ ns : List Int, ss = [.s ns] ∧ ns.length ≤ 63 ∧ ∀ M', post M' (.d (.bool true))
end Lst
set_option Elab.async false
set_option linter.all false
set_option maxRecDepth 100000
set_option maxHeartbeats 4000000
namespace Lst
open PySem PySem.Spec PyProof.Rows L2 DL
def c_common_ahead_b1 : DS :=
  (dExpr (dBM "list" ρApp (dV 5) (dCons (dIfE (dB (dOp ρEq (dV 3) (dV 7))) (dOp ρAdd (dOp ρIx (dV 4) (dV 6)) (dC (.int 1))) (dCB ρMax (dCons (dOp ρIx (dV 4) (dOp ρAdd (dV 6) (dC (.int 1)))) (dCons (dOp ρIx (dV 5) (dV 6)) dNil)))) dNil)))
def c_common_ahead_b2 : DS :=
  (dSeq (dSet 4 (dOp ρIx (dV 2) (dUn ρNeg (dC (.int 1)))))
  (dSeq (dSet 5 (dLstM (dCons (dC (.int 0)) dNil)))
  (dSeq (dFor (dEnum (dCons (dV 1) dNil)) (.tp [6, 7])
  c_common_ahead_b1)
  (dExpr (dBM "list" ρApp (dV 2) (dCons (dVF 5) dNil))))))
/-- common_ahead: rows 0, others 1, found 2, text 3, last 4, row 5, place 6, other 7 -/
def c_common_ahead : DS :=
  (dSeq (dSet 2 (dLstM (dCons (dOp ρMul (dLst (dCons (dC (.int 0)) dNil)) (dOp ρAdd (dCB ρLen (dCons (dV 1) dNil)) (dC (.int 1)))) dNil)))
  (dSeq (dFor (dIn (dV 0)) (.nm 3)
  c_common_ahead_b2)
  (dRet (dVF 2))))
/-- common_behind: rows 0, others 1, turned 2, row 3 -/
def c_common_behind : DS :=
  (dSeq (dSet 2 (dCall φ_common_ahead (dCons (dRev (dV 0)) (dCons (dRev (dV 1)) dNil))))
  (dRet (dLc finD (dIn (dRev (dV 2))) (.nm 3) dYes (dRev (dV 3)) [3])))
def c_kept_pairs_b1 : DS :=
  (dIf (dAnd (dB (dOp ρEq (dOp ρIx (dV 0) (dV 6)) (dOp ρIx (dV 1) (dV 8)))) (dAnd (dB (dOp ρGt (dV 7) (dC (.int 0)))) (dB (dOp ρEq (dOp ρAdd (dC (.int 1)) (dOp ρIx (dOp ρIx (dV 2) (dOp ρAdd (dV 6) (dC (.int 1)))) (dOp ρAdd (dV 8) (dC (.int 1))))) (dV 7))))) (dSeq (dExpr (dBM "list" ρApp (dV 3) (dCons (dTup (dCons (dV 6) (dCons (dV 8) dNil))) dNil)))
  (dSeq (dPar 4 5 (dCons (dOp ρAdd (dV 6) (dC (.int 1))) (dCons (dOp ρAdd (dV 8) (dC (.int 1))) dNil)))
  dBreak))
  dNext)
def c_kept_pairs_b2 : DS :=
  (dSeq (dSet 7 (dOp ρIx (dOp ρIx (dV 2) (dV 4)) (dV 5)))
  (dFor (dRng2 (dCons (dV 5) (dCons (dCB ρLen (dCons (dV 1) dNil)) dNil))) (.nm 8)
  c_kept_pairs_b1))
/-- kept_pairs: rows 0, others 1, behind 2, found 3, here 4, there 5, one 6, wanted 7, other 8 -/
def c_kept_pairs : DS :=
  (dSeq (dSet 2 (dCall φ_common_behind (dCons (dV 0) (dCons (dV 1) dNil))))
  (dSeq (dSet 3 (dLstM dNil))
  (dSeq (dAsg (.tp [4, 5]) (dTup (dCons (dC (.int 0)) (dCons (dC (.int 0)) dNil))))
  (dSeq (dFor (dRng1 (dCons (dCB ρLen (dCons (dV 0) dNil)) dNil)) (.nm 6)
  c_kept_pairs_b2)
  (dRet (dV 3))))))
def c_pair_levels_b1 : DS :=
  (dIf (dB (dOp ρEq (dV 6) (dOp ρIx (dV 1) (dV 7)))) (dExpr (dBM "list" ρApp (dOp ρIx (dV 3) (dOp ρIx (dOp ρIx (dV 2) (dV 5)) (dV 7))) (dCons (dTup (dCons (dV 5) (dCons (dV 7) dNil))) dNil)))
  dNext)
def c_pair_levels_b2 : DS :=
  (dFor (dRng1 (dCons (dCB ρLen (dCons (dV 1) dNil)) dNil)) (.nm 7)
  c_pair_levels_b1)
/-- pair_levels: rows 0, others 1, ahead 2, found 3, turn 4, one 5, text 6, other 7 -/
def c_pair_levels : DS :=
  (dSeq (dSet 2 (dCall φ_common_ahead (dCons (dV 0) (dCons (dV 1) dNil))))
  (dSeq (dSet 3 (dLc finM (dRng1 (dCons (dOp ρIx (dOp ρIx (dV 2) (dCB ρLen (dCons (dV 0) dNil))) (dCB ρLen (dCons (dV 1) dNil))) dNil)) (.nm 4) dYes (dLstM dNil) [4]))
  (dSeq (dFor (dEnum (dCons (dV 0) dNil)) (.tp [5, 6])
  c_pair_levels_b2)
  (dRet (dV 3)))))
/-- least_change: rows 0, others 1 -/
def c_least_change : DS :=
  (dRet (dTupT (dCons (dCall φ_kept_pairs (dCons (dV 0) (dCons (dV 1) dNil))) (dCons (dCall φ_pair_levels (dCons (dV 0) (dCons (dV 1) dNil))) dNil))))
/-- least_cost: rows 0, others 1 -/
def c_least_cost : DS :=
  (dRet (dOp ρSub (dOp ρAdd (dCB ρLen (dCons (dV 0) dNil)) (dCB ρLen (dCons (dV 1) dNil))) (dOp ρMul (dC (.int 2)) (dCB ρLen (dCons (dCall φ_kept_pairs (dCons (dV 0) (dCons (dV 1) dNil))) dNil)))))
/-- _law_started: _law_script 0, _law_cell 1 -/
def c__law_started : DS :=
  (dRet (dDisp [((dC (.str "script")), (dV 0)), ((dC (.str "at")), (dC (.int 0))), ((dC (.str "rest")), (dLc finM (dIn (dV 0)) (.nm 1) dYes (dOp ρMul (dV 1) (dCB ρInt (dCons (dOp ρGe (dV 1) (dOp ρPow (dC (.int 10)) (dC (.int 18)))) dNil))) [1]))]))
/-- _law_draw: _law_m 0, _law_many 1, _law_k 2, _law_cells 3, _law_left 4, _law_cell 5, _law_number 6 -/
def c__law_draw : DS :=
  (dSeq (dSet 2 (dOp ρDk (dV 0) (dC (.str "at"))))
  (dSeq (dSub (dV 0) (dC (.str "at")) (dOp ρAdd (dV 2) (dC (.int 1))))
  (dSeq (dSet 3 (dOp ρDk (dV 0) (dC (.str "script"))))
  (dSeq (dSet 4 (dIfE (dB (dOp ρNe (dOp ρDk (dV 0) (dC (.str "rest"))) (dLst dNil))) (dOp ρIx (dOp ρDk (dV 0) (dC (.str "rest"))) (dOp ρMod (dV 2) (dCB ρLen (dCons (dV 3) dNil)))) (dC (.int 0))))
  (dSeq (dIf (dB (dOp ρGt (dV 4) (dC (.int 0)))) (dSeq (dSub (dOp ρDk (dV 0) (dC (.str "rest"))) (dOp ρMod (dV 2) (dCB ρLen (dCons (dV 3) dNil))) (dOp ρDiv (dV 4) (dV 1)))
  (dRet (dOp ρMod (dV 4) (dV 1))))
  dNext)
  (dSeq (dSet 5 (dIfE (dB (dOp ρNe (dV 3) (dLst dNil))) (dOp ρIx (dV 3) (dOp ρMod (dV 2) (dCB ρLen (dCons (dV 3) dNil)))) (dC (.int 0))))
  (dSeq (dSet 6 (dOp ρMod (dOp ρAdd (dOp ρAdd (dOp ρMul (dOp ρMod (dV 5) (dC (.int 2147483629))) (dC (.int 48271))) (dOp ρMul (dOp ρMul (dC (.int 69621)) (dV 2)) (dV 2))) (dC (.int 104729))) (dC (.int 2147483647))))
  (dSeq (dSet 6 (dOp ρMod (dOp ρMul (dV 6) (dOp ρAdd (dC (.int 16807)) (dOp ρMul (dC (.int 2)) (dV 2)))) (dC (.int 2147483629))))
  (dRet (dOp ρMod (dOp ρDiv (dOp ρMod (dOp ρMul (dV 6) (dV 6)) (dC (.int 1000000007))) (dC (.int 7))) (dV 1)))))))))))
/-- _law_of: _law_m 0, _law_some 1 -/
def c__law_of : DS :=
  (dRet (dOp ρIx (dV 1) (dCall φ__law_draw (dCons (dV 0) (dCons (dCB ρLen (dCons (dV 1) dNil)) dNil)))))
/-- _law_alike: _law_found 0, _law_due 1, _law_one 2, _law_other 3 -/
def c__law_alike (φ__law_alike : DF) : DS :=
  (dSeq (dIf (dTru (dIsi ["tuple", "list"] (dV 1))) (dSeq (dIf (dOr (dB (dOp ρNe (dIsi ["list"] (dV 0)) (dIsi ["list"] (dV 1)))) (dNot (dTru (dIsi ["tuple", "list"] (dV 0))))) (dRet (dC (.bool false)))
  dNext)
  (dRet (dAndV (dOp ρEq (dCB ρLen (dCons (dV 0) dNil)) (dCB ρLen (dCons (dV 1) dNil))) (dCB ρAll (dCons (dLc finD (dZipS (dCons (dV 0) (dCons (dV 1) dNil))) (.tp [2, 3]) dYes (dCall φ__law_alike (dCons (dV 2) (dCons (dV 3) dNil))) [2, 3]) dNil)))))
  dNext)
  (dRet (dAndV (dOp ρEq (dIsi ["bool"] (dV 0)) (dIsi ["bool"] (dV 1))) (dOp ρEq (dV 0) (dV 1)))))
def c__law_rows_b1 : DS :=
  (dSeq (dSet 5 (dCall φ__law_draw (dCons (dV 0) (dCons (dOp ρAdd (dCB ρLen (dCons (dV 4) dNil)) (dC (.int 1))) dNil))))
  (dSeq (dSet 6 (dCall φ__law_draw (dCons (dV 0) (dCons (dC (.int 3)) dNil))))
  (dSet 4 (dOp ρAdd (dOp ρAdd (dSl (dV 4) dNoP (dPart (dV 5))) (dOp ρMul (dLst (dCons (dCall φ__law_of (dCons (dV 0) (dCons (dV 1) dNil))) dNil)) (dCB ρInt (dCons (dOp ρGt (dV 6) (dC (.int 0))) dNil)))) (dSl (dV 4) (dPart (dOp ρAdd (dV 5) (dCB ρInt (dCons (dOp ρNe (dV 6) (dC (.int 1))) dNil)))) dNoP)))))
/-- _law_rows: _law_m 0, _law_some 1, _law_one 2, _law_k 3, _law_other 4, _law_at 5, _law_way 6 -/
def c__law_rows : DS :=
  (dSeq (dSet 1 (dOp ρIx (dLst (dCons (dLst (dCons (dC (.str "a")) dNil)) (dCons (dLst (dCons (dC (.str "a")) (dCons (dC (.str "A")) dNil))) (dCons (dLst (dCons (dC (.str "a")) (dCons (dC (.str "b")) (dCons (dC (.str "B")) dNil)))) (dCons (dLst (dCons (dC (.str "")) (dCons (dC (.str "a")) (dCons (dC (.str "b c")) (dCons (dC (.str "B c")) (dCons (dC (.str "A")) dNil)))))) dNil))))) (dCall φ__law_draw (dCons (dV 0) (dCons (dC (.int 4)) dNil)))))
  (dSeq (dSet 2 (dLc finD (dRng1 (dCons (dCall φ__law_draw (dCons (dV 0) (dCons (dC (.int 13)) dNil))) dNil)) (.nm 3) dYes (dCall φ__law_of (dCons (dV 0) (dCons (dV 1) dNil))) [3]))
  (dSeq (dIf (dB (dOp ρEq (dCall φ__law_draw (dCons (dV 0) (dCons (dC (.int 3)) dNil))) (dC (.int 0)))) (dRet (dTup (dCons (dV 2) (dCons (dLc finD (dRng1 (dCons (dCall φ__law_draw (dCons (dV 0) (dCons (dC (.int 13)) dNil))) dNil)) (.nm 3) dYes (dCall φ__law_of (dCons (dV 0) (dCons (dV 1) dNil))) [3]) dNil))))
  dNext)
  (dSeq (dSet 4 (dCB (ρList false) (dCons (dV 2) dNil)))
  (dSeq (dFor (dRng1 (dCons (dOp ρAdd (dC (.int 1)) (dCall φ__law_draw (dCons (dV 0) (dCons (dC (.int 6)) dNil)))) dNil)) (.nm 3)
  c__law_rows_b1)
  (dRet (dTup (dCons (dV 2) (dCons (dSl (dV 4) dNoP (dPart (dC (.int 12)))) dNil)))))))))
def c__law_ends_b1 : DS :=
  (dIf (dB (dOp ρEq (dOp ρIx (dV 0) (dV 3)) (dOp ρIx (dV 1) (dV 4)))) (dSeq (dLockS (dSet 5 (dLc finD (dKeys (dV 2)) (.nm 6) (dAnd (dB (dOp ρLt (dOp ρIx (dV 6) (dC (.int 0))) (dV 3))) (dB (dOp ρLt (dOp ρIx (dV 6) (dC (.int 1))) (dV 4)))) (dOp ρDk (dV 2) (dV 6)) [6])))
  (dSub (dV 2) (dTup (dCons (dV 3) (dCons (dV 4) dNil))) (dOp ρAdd (dC (.int 1)) (dCB ρMax (dCons (dOp ρAdd (dLst (dCons (dC (.int 0)) dNil)) (dV 5)) dNil)))))
  dNext)
def c__law_ends_b2 : DS :=
  (dFor (dRng1 (dCons (dCB ρLen (dCons (dV 1) dNil)) dNil)) (.nm 4)
  c__law_ends_b1)
/-- _law_ends: _law_one 0, _law_other 1, _law_found 2, _law_first 3, _law_second 4, _law_ahead 5, _law_pair 6 -/
def c__law_ends : DS :=
  (dSeq (dSet 2 dNewT)
  (dSeq (dFor (dRng1 (dCons (dCB ρLen (dCons (dV 0) dNil)) dNil)) (.nm 3)
  c__law_ends_b2)
  (dRet (dV 2))))
def c__law_right_b1 : DS :=
  (dIf (dOr (dB (dOp ρNe (dGet2 (dV 2) (dV 5) (dC (.int 0))) (dOp ρAdd (dV 6) (dC (.int 1))))) (dAnd (dB (dOp ρGt (dV 6) (dC (.int 0)))) (dOr (dB (dOp ρLe (dOp ρIx (dV 5) (dC (.int 0))) (dOp ρIx (dOp ρIx (dV 10) (dOp ρSub (dV 6) (dC (.int 1)))) (dC (.int 0))))) (dB (dOp ρLe (dOp ρIx (dV 5) (dC (.int 1))) (dOp ρIx (dOp ρIx (dV 10) (dOp ρSub (dV 6) (dC (.int 1)))) (dC (.int 1)))))))) (dRet (dC (.bool false)))
  dNext)
def c__law_right_b2 : DS :=
  (dExpr (dBM "list" ρApp (dV 11) (dCons (dTup (dCons (dC (.int 0)) (dCons (dC (.int 0)) dNil))) dNil)))
def c__law_right_b3 : DS :=
  (dSeq (dSet 8 (dLst (dCons (dCB (ρList false) (dCons (dV 0) dNil)) (dCons (dCB (ρList false) (dCons (dV 1) dNil)) dNil))))
  (dSeq (dSet 9 (dCall φ_least_change (dCons (dOp ρIx (dV 8) (dC (.int 0))) (dCons (dOp ρIx (dV 8) (dC (.int 1))) dNil))))
  (dSeq (dIf (dB (dOp ρNe (dV 8) (dLst (dCons (dV 0) (dCons (dV 1) dNil))))) (dRet (dC (.bool false)))
  dNext)
  (dSeq (dIf (dOr (dNot (dTru (dIsi ["tuple"] (dV 9)))) (dOr (dB (dOp ρNe (dCB ρLen (dCons (dV 9) dNil)) (dC (.int 2)))) (dNot (dTru (dCall φ__law_alike (dCons (dOp ρIx (dV 9) (dC (.int 1))) (dCons (dV 4) dNil))))))) (dRet (dC (.bool false)))
  dNext)
  (dSeq (dSet 10 (dOp ρIx (dV 9) (dC (.int 0))))
  (dSeq (dIf (dOr (dNot (dTru (dCall φ__law_alike (dCons (dV 10) (dCons (dCB ρSort (dCons (dV 10) dNil)) dNil))))) (dB (dOp ρNe (dCB ρLen (dCons (dV 10) dNil)) (dV 3)))) (dRet (dC (.bool false)))
  dNext)
  (dSeq (dFor (dEnum (dCons (dV 10) dNil)) (.tp [6, 5])
  c__law_right_b1)
  (dSeq (dExpr (dBM "list" ρApp (dOp ρIx (dV 9) (dC (.int 0))) (dCons (dTup (dCons (dC (.int 0)) (dCons (dC (.int 0)) dNil))) dNil)))
  (dSeq (dFor (dIn (dOp ρIx (dV 9) (dC (.int 1)))) (.nm 11)
  c__law_right_b2)
  (dExpr (dBM "list" ρApp (dOp ρIx (dV 9) (dC (.int 1))) (dCons (dLst dNil) dNil))))))))))))
/-- _law_right: _law_one 0, _law_other 1, _law_ends_here 2, _law_most 3, _law_due 4, _law_pair 5, _law_k 6, _law_turn 7, _law_handed 8, _law_found 9, _law_pairs 10, _law_level 11 -/
def c__law_right : DS :=
  (dSeq (dSet 2 (dCall φ__law_ends (dCons (dV 0) (dCons (dV 1) dNil))))
  (dSeq (dSet 3 (dCB ρMax (dCons (dOp ρAdd (dLst (dCons (dC (.int 0)) dNil)) (dListVals (dV 2))) dNil)))
  (dSeq (dSet 4 (dLc finD (dRng1 (dCons (dV 3) dNil)) (.nm 6) dYes (dCB ρSort (dCons (dLockE (dLc finD (dKeys (dV 2)) (.nm 5) (dB (dOp ρEq (dOp ρDk (dV 2) (dV 5)) (dOp ρAdd (dV 6) (dC (.int 1))))) (dV 5) [5])) dNil)) [6]))
  (dSeq (dFor (dRng1 (dCons (dC (.int 2)) dNil)) (.nm 7)
  c__law_right_b3)
  (dSeq (dSet 8 (dLst (dCons (dCB (ρList false) (dCons (dV 0) dNil)) (dCons (dCB (ρList false) (dCons (dV 1) dNil)) dNil))))
  (dSeq (dIf (dNot (dTru (dCall φ__law_alike (dCons (dCall φ_least_cost (dCons (dOp ρIx (dV 8) (dC (.int 0))) (dCons (dOp ρIx (dV 8) (dC (.int 1))) dNil))) (dCons (dOp ρSub (dOp ρAdd (dCB ρLen (dCons (dV 0) dNil)) (dCB ρLen (dCons (dV 1) dNil))) (dOp ρMul (dC (.int 2)) (dV 3))) dNil))))) (dRet (dC (.bool false)))
  dNext)
  (dRet (dOp ρEq (dV 8) (dLst (dCons (dV 0) (dCons (dV 1) dNil)))))))))))
def c_law_b1 : DS :=
  (dSeq (dAsg (.tp [3, 4]) (dCall φ__law_rows (dCons (dV 1) dNil)))
  (dIf (dOr (dNot (dTru (dCall φ__law_right (dCons (dV 3) (dCons (dV 4) dNil))))) (dNot (dTru (dCall φ__law_right (dCons (dV 4) (dCons (dV 3) dNil)))))) (dRet (dC (.bool false)))
  dNext))
/-- law: _law_script 0, _law_m 1, _law_k 2, _law_one 3, _law_other 4 -/
def c_law : DS :=
  (dSeq (dSet 1 (dCall φ__law_started (dCons (dV 0) dNil)))
  (dSeq (dFor (dRng1 (dCons (dCB ρMax (dCons (dC (.int 3)) (dCons (dCB ρMin (dCons (dC (.int 12)) (dCons (dCB ρLen (dCons (dV 0) dNil)) dNil))) dNil))) dNil)) (.nm 2)
  c_law_b1)
  (dRet (dAndV (dCall φ__law_right (dCons (dLst dNil) (dCons (dLst dNil) dNil))) (dCall φ__law_right (dCons (dOp ρMul (dLst (dCons (dC (.str "a")) dNil)) (dC (.int 20))) (dCons (dOp ρMul (dLst (dCons (dC (.str "a")) dNil)) (dC (.int 9))) dNil)))))))
end Lst
set_option Elab.async false
set_option linter.all false
set_option autoImplicit false
set_option maxRecDepth 100000
set_option maxHeartbeats 4000000
namespace Lst
open PySem PySem.Spec PyProof.Rows L2 DL
local macro_rules | `(tactic| walk_at "dl") => `(tactic| try dsimp only [dSeq, dSet, dLstM, dOp, dV, dVs_d, dVs_m, dVs_s, dC, dCB, dCons, dNil, dLst, dTup, dUn, dB, dTru, dAnd, dOr, dNot, dAndV, dOrV, dNotV, dIfE, dIf, dRet, dExpr, dBM, dVF, dIn, dEnum, dZip, dRng1, dRng2, dPar, dAsg, dCall, dNext, dBreak, dYes, dSl, dPart, dNoP, dRev, dSub, dIsi, Tg.set, setAll_c, setAll_0, wipeS, wkD, wkR, ρAdd_int, ρAdd_str, ρAdd_tup, ρSub_int, ρMul_int, ρMod_int, ρDiv_int, ρPow_int, ρLt_int, ρLe_int, ρGt_int, ρGe_int, ρNeg_int, ρIx_lst, ρIx_tup, ρIx_str, ρIx_scr, ρLen_lst, ρLen_tup, ρLen_str, ρLen_scr, ρMax_2, ρMin_2, ρInt_int, ρInt_bool, ρApp_m, ρTru_b, ρTru_n, ρTru_i, ρTru_l, ρTru_t, ρWk_l, ρWk_t, ρWk_s, ρWk_m, ρWk_tt, ρIx_t, ρLen_t, ρTru_tt, dVs_t, dTupT, dEnumS, dZipS, ρSl_t, ρSl_s, ρSl_c, List.cons_append, List.nil_append, List.length_cons, List.length_nil, List.getElem?_cons_succ, List.getElem?_cons_zero, List.set_cons_succ, List.set_cons_zero, List.map])
theorem row_get {m : Nat} {f : Nat → Nat} {j : Nat} (h : j ≤ m) : ((List.range (m + 1)).map fun j => PyData.int (f j))[j]? = some (.int (f j)) := by
  simp [List.getElem?_map, List.getElem?_range (show j < m + 1 by omega)]
theorem rowS_get {m : Nat} {f : Nat → Nat} {j : Nat} (h : j ≤ m) : ((List.range (m + 1)).map fun j => Sl.d (.int (f j)))[j]? = some (.d (.int (f j))) := by
  simp [List.getElem?_map, List.getElem?_range (show j < m + 1 by omega)]
theorem does_common_ahead : Does 8 φ_common_ahead c_common_ahead := by
  rintro M ss post ⟨R, O, rfl, hR, hO, hp⟩
  show c_common_ahead _ M [.d (.list (tx R)), .d (.list (tx O)), .n, .n, .n, .n, .n, .n]
  unfold c_common_ahead
  have lR := hR.few
  have lO := hO.few
  have lt0 : (tx O).length = O.length := by simp
  walk_at "dl"
  refine ⟨[.int 0], rfl, sz (by simp), ρMul_lst ⟨by omega, by rw [lt0]; omega, sz (by simp; omega), sz (by simp), fun a ha => ?_⟩⟩
  have ez : (List.replicate ((↑(tx O).length : Int) + 1).toNat [PyData.int 0]).flatten = (List.range (O.length + 1)).map fun j => PyData.int (lt R O 0 j) := by
    rw [show ((↑(tx O).length : Int) + 1).toNat = O.length + 1 by rw [lt0]; omega]
    have : ∀ n, (List.replicate n [PyData.int 0]).flatten = (List.range n).map fun j => PyData.int (lt R O 0 j) := fun n => by
      induction n with
      | zero => rfl
      | succ n ih =>
        rw [List.replicate_succ', List.flatten_append, ih, List.range_succ, List.map_append]
        simp [lt_0]
    exact this _
  rw [ez]
  let rows : Nat → List Sl := fun i => (List.range (i + 1)).map fun i => Sl.d (rowD O.length (lt R O i))
  unfold dFor
  walk_at "dl"
  refine ⟨fun i M' es' => M' = mput M a (.lst (rows i)) ∧ ∃ s3 s4 s5 s6 s7, es' = [.d (.list (tx R)), .d (.list (tx O)), .m a, s3, s4, s5, s6, s7], ⟨rfl, _, _, _, _, _, rfl⟩, fun _ _ _ _ _ => trivial, ?_, ?_⟩
  · rintro i M' es' hi ⟨rfl, s3, s4, s5, s6, s7, rfl⟩
    have hi : i < R.length := by simpa using hi
    unfold c_common_ahead_b2
    walk_at "dl"
    rw [tx_get hi]
    have er : rows i = (List.range i).map (fun i => Sl.d (rowD O.length (lt R O i))) ++ [Sl.d (rowD O.length (lt R O i))] := by
      show (List.range (i + 1)).map _ = _
      rw [List.range_succ, List.map_append]; rfl
    refine ρIx_ml mput_same ⟨_, by rw [er]; exact atI_end, sz (by simp), fun b hb => ?_⟩
    have nab : a ≠ b := fun e => by subst e; rw [mput_same] at hb; cases hb
    unfold dFor
    walk_at "dl"
    let row : Nat → List Sl := fun j => (List.range (j + 1)).map fun j => Sl.d (.int (lt R O (i + 1) j))
    refine ⟨_, _, rfl, .inl rfl, fun j M' es' => M' = mput (mput M a (.lst (rows i))) b (.lst (row j)) ∧ ∃ s6 s7, es' = [.d (.list (tx R)), .d (.list (tx O)), .m a, .d (.str R[i]), .d (rowD O.length (lt R O i)), .m b, s6, s7], ⟨?_, _, _, rfl⟩, fun _ _ _ _ _ => trivial, ?_, ?_⟩
    · show mput _ b _ = mput _ b (.lst ((List.range 1).map _))
      simp [List.range_succ, lt_i0]
    · rintro j M' es' hj ⟨rfl, s6, s7, rfl⟩
      have hj : j < O.length := by simpa using hj
      unfold c_common_ahead_b1
      walk_at "dl"
      rw [tx_get hj]
      refine ⟨_, rfl, rfl, ?_⟩
      walk_at "dl"
      refine ⟨.inl ⟨rfl, _, mput_same⟩, ρEq_d ⟨hR.ok _ (List.getElem_mem _), hO.ok _ (List.getElem_mem _), _, rfl, ?_⟩⟩
      rw [eqv_str]
      have fin : ∀ z : Int, z = (lt R O (i + 1) (j + 1) : Nat) → ∃ xs, mput (mput M a (.lst (rows i))) b (.lst (row j)) b = some (.lst xs) ∧ xs.length < sizeLine ∧ mput (mput (mput M a (.lst (rows i))) b (.lst (row j))) b (.lst (xs ++ [.d (.int z)])) = mput (mput M a (.lst (rows i))) b (.lst (row (j + 1))) := fun z hz => by
        refine ⟨_, mput_same, szl (by simp [row]; omega), ?_⟩
        rw [mput_mput]
        congr 2
        show (List.range (j + 1)).map _ ++ _ = (List.range (j + 1 + 1)).map _
        rw [List.range_succ (n := j + 1), List.map_append, hz]
        rfl
      have e1 : R[i]? = some R[i] := List.getElem?_eq_getElem hi
      have e2 : O[j]? = some O[j] := List.getElem?_eq_getElem hj
      by_cases h : R[i] = O[j]
      · rw [decide_eq_true h, if_pos rfl]
        refine ⟨_, atI_at (row_get (by omega)), ?_⟩
        walk_at "dl"
        obtain ⟨xs, h1, h2, h3⟩ := fin _ (by rw [lt_ss, if_pos (by rw [e1, e2, h])])
        exact ⟨xs, h1, h2, h3, _, _, rfl⟩
      · rw [decide_eq_false h, if_neg Bool.false_ne_true]
        refine ⟨_, atI_at (i := j + 1) (row_get (by omega)), ?_⟩
        walk_at "dl"
        refine ρIx_ml mput_same ⟨_, atI_at (i := j) (rowS_get (by omega)), ?_⟩
        walk_at "dl"
        obtain ⟨xs, h1, h2, h3⟩ := fin (if (↑(lt R O (i + 1) j) : Int) > ↑(lt R O i (j + 1)) then ↑(lt R O (i + 1) j) else ↑(lt R O i (j + 1))) (by
          have elt : lt R O (i + 1) (j + 1) = max (lt R O i (j + 1)) (lt R O (i + 1) j) := by rw [lt_ss, if_neg (by rw [e1, e2]; simpa using h)]
          rw [elt]
          split <;> omega)
        exact ⟨xs, h1, h2, h3, _, _, rfl⟩
    · rintro M' es' ⟨rfl, s6, s7, rfl⟩
      walk_at "dl"
      refine ⟨.inl ⟨rfl, rows i, by rw [mput_ne nab, mput_same]⟩, b, (List.range (O.length + 1)).map fun j => .int (lt R O (i + 1) j), rfl, ?_, rows i, ?_, szl (by simp [rows]; omega), ?_, _, _, _, _, _, rfl⟩
      · rw [mput_same, List.map_map, lt0]; rfl
      · rw [mdel_ne nab, mput_ne nab, mput_same]
      · rw [mdel_mput hb, mput_mput]
        congr 2
        show (List.range (i + 1)).map _ ++ _ = (List.range (i + 1 + 1)).map _
        rw [List.range_succ (n := i + 1), List.map_append]
        rfl
  · rintro M' es' ⟨rfl, s3, s4, s5, s6, s7, rfl⟩
    walk_at "dl"
    refine ⟨a, (List.range (R.length + 1)).map fun i => rowD O.length (lt R O i), rfl, ?_, ?_⟩
    · rw [mput_same, List.map_map]; simp [rows]
    · rw [mdel_mput ha]; exact hp
end Lst
set_option Elab.async false
set_option linter.all false
set_option autoImplicit false
set_option maxRecDepth 100000
set_option maxHeartbeats 4000000
namespace Lst
open PySem PySem.Spec PyProof.Rows L2 DL
local macro_rules | `(tactic| walk_at "dl") => `(tactic| try dsimp only [dSeq, dSet, dLstM, dOp, dV, dVs_d, dVs_m, dVs_s, dC, dCB, dCons, dNil, dLst, dTup, dUn, dB, dTru, dAnd, dOr, dNot, dAndV, dOrV, dNotV, dIfE, dIf, dRet, dExpr, dBM, dVF, dIn, dEnum, dZip, dRng1, dRng2, dPar, dAsg, dCall, dNext, dBreak, dYes, dSl, dPart, dNoP, dRev, dSub, dIsi, Tg.set, setAll_c, setAll_0, wipeS, wkD, wkR, ρAdd_int, ρAdd_str, ρAdd_tup, ρSub_int, ρMul_int, ρMod_int, ρDiv_int, ρPow_int, ρLt_int, ρLe_int, ρGt_int, ρGe_int, ρNeg_int, ρIx_lst, ρIx_tup, ρIx_str, ρIx_scr, ρLen_lst, ρLen_tup, ρLen_str, ρLen_scr, ρMax_2, ρMin_2, ρInt_int, ρInt_bool, ρApp_m, ρTru_b, ρTru_n, ρTru_i, ρTru_l, ρTru_t, ρWk_l, ρWk_t, ρWk_s, ρWk_m, ρWk_tt, ρIx_t, ρLen_t, ρTru_tt, dVs_t, dTupT, dEnumS, dZipS, ρSl_t, ρSl_s, ρSl_c, List.cons_append, List.nil_append, List.length_cons, List.length_nil, List.getElem?_cons_succ, List.getElem?_cons_zero, List.set_cons_succ, List.set_cons_zero, List.map])
theorem tab_get {n m : Nat} {f : Nat → Nat → Nat} {i : Nat} (h : i ≤ n) : ((List.range (n + 1)).map fun i => rowD m (f i))[i]? = some (rowD m (f i)) := by
  simp [List.getElem?_map, List.getElem?_range (show i < n + 1 by omega)]
theorem rev_range (n : Nat) {α : Type} (g : Nat → α) : ((List.range (n + 1)).map g).reverse = (List.range (n + 1)).map fun i => g (n - i) := by
  apply List.ext_getElem?
  intro i
  by_cases h : i < n + 1
  · rw [List.getElem?_reverse (by simpa using h)]
    simp [List.getElem?_map, List.getElem?_range h]
    rw [List.getElem?_range (show n - i < n + 1 by omega)]
    exact ⟨_, rfl, rfl⟩
  · rw [List.getElem?_eq_none (by simp; omega), List.getElem?_eq_none (by simp; omega)]
theorem does_common_behind : Does 4 φ_common_behind c_common_behind := by
  rintro M ss post ⟨R, O, rfl, hR, hO, hp⟩
  show c_common_behind _ M [.d (.list (tx R)), .d (.list (tx O)), .n, .n]
  unfold c_common_behind
  have lR := hR.few
  walk_at "dl"
  refine ⟨_, rfl, _, rfl, R.reverse, O.reverse, by simp, hR.rev, hO.rev, ?_⟩
  rw [List.length_reverse, List.length_reverse]
  have e1 : ((List.range (R.length + 1)).map fun i => rowD O.length (lt R.reverse O.reverse i)).reverse = (List.range (R.length + 1)).map fun i => rowD O.length (lt R.reverse O.reverse (R.length - i)) := rev_range _ _
  refine lc_pure (wkD ((List.range (R.length + 1)).map fun i => rowD O.length (lt R.reverse O.reverse (R.length - i)))) (fun i => some (rowD O.length (lb R O i))) (fun k hk => ?_) (by simp; omega) (fun _ _ _ => trivial) (fun i hi Dn acc hD A B hA hB => ?_) ?_
  · walk_at "dl"
    exact ⟨_, rfl, by rw [e1]; exact hk⟩
  · have hi : i < R.length + 1 := by simpa using hi
    walk_at "dl"
    refine iteT ?_
    have e2 : ((List.range (R.length + 1)).map fun i => rowD O.length (lt R.reverse O.reverse (R.length - i))).getD i .none = rowD O.length (lt R.reverse O.reverse (R.length - i)) := by
      rw [List.getD_eq_getElem?_getD, List.getElem?_map, List.getElem?_range hi]; rfl
    rw [e2]
    refine ⟨_, rfl, ?_⟩
    rw [rev_range O.length fun j => PyData.int (lt R.reverse O.reverse (R.length - i) j)]
    exact hA _ rfl
  · have e3 : ∀ (n : Nat) (g : Nat → PyData), (List.range n).filterMap (fun i => some (g i)) = (List.range n).map g := fun n g => by
      rw [List.filterMap_eq_map']
    rw [e3]
    simpa [tabD] using hp
theorem does_kept_pairs : Does 9 φ_kept_pairs c_kept_pairs := by
  rintro M ss post ⟨R, O, rfl, hR, hO, hp⟩
  show c_kept_pairs _ M [.d (.list (tx R)), .d (.list (tx O)), .n, .n, .n, .n, .n, .n, .n]
  unfold c_kept_pairs
  have lR := hR.few
  have lO := hO.few
  walk_at "dl"
  refine ⟨R, O, rfl, hR, hO, sz (by omega), fun a ha => ⟨[.int 0, .int 0], rfl, sz (by simp), _, rfl, rfl, ?_⟩⟩
  unfold dFor
  walk_at "dl"
  have l0 : (tx R).length = R.length := by simp
  have l1 : (tx O).length = O.length := by simp
  refine ⟨_, rfl, ⟨by omega, by omega⟩, fun i M' es' => M' = mput M a (.lst ((prs (kst R O i).f).map Sl.d)) ∧ ∃ s6 s7 s8, es' = [.d (.list (tx R)), .d (.list (tx O)), .d (tabD R.length O.length (lb R O)), .m a, .d (.int (kst R O i).h), .d (.int (kst R O i).t), s6, s7, s8], ⟨rfl, _, _, _, rfl⟩, fun _ _ _ _ _ => trivial, ?_, ?_⟩
  · rintro i M' es' hi ⟨rfl, s6, s7, s8, rfl⟩
    have hi : i < R.length := by rw [l0] at hi; omega
    obtain ⟨b1, b2, b3⟩ := kst_bounds (R := R) (O := O) (n := i) (by omega)
    have es := kst_succ R O i
    generalize kst R O i = st at *
    unfold c_kept_pairs_b2
    walk_at "dl"
    refine ⟨_, atI_at (tab_get (by omega)), ?_⟩
    unfold rowD
    walk_at "dl"
    refine ⟨_, atI_at (row_get (by omega)), ?_⟩
    unfold dFor
    walk_at "dl"
    refine ⟨_, _, rfl, ⟨by omega, by omega, by omega, by omega⟩, fun j M' es' => (M' = mput M a (.lst ((prs st.f).map Sl.d)) ∧ ∃ s8, es' = [.d (.list (tx R)), .d (.list (tx O)), .d (tabD R.length O.length (lb R O)), .m a, .d (.int st.h), .d (.int st.t), .d (.int (i : Nat)), .d (.int (lb R O st.h st.t)), s8]) ∧ ∀ c, st.t ≤ c → c < st.t + j → cond R O st.h st.t i c = false, ⟨⟨rfl, _, by rw [show (0 + (i : Int)) = (i : Int) by omega]⟩, fun c h1 h2 => by omega⟩, fun _ _ _ _ _ => trivial, ?_, ?_⟩
    · rintro j M' es' hj ⟨⟨rfl, s8, rfl⟩, hno⟩
      have hj : st.t + j < O.length := by rw [l1] at hj; omega
      unfold c_kept_pairs_b1
      walk_at "dl"
      have ez2 : ((st.t : Int) + (j : Nat)) = ((st.t + j : Nat) : Int) := by omega
      rw [ez2]
      refine ⟨_, atI_at (i := i) (x := .str R[i]) (by simp [hi]), ?_⟩
      walk_at "dl"
      refine ⟨_, atI_at (i := st.t + j) (x := .str O[st.t + j]) (by simp [hj]), ?_⟩
      refine ρEq_d ⟨hR.ok _ (List.getElem_mem _), hO.ok _ (List.getElem_mem _), _, rfl, ?_⟩
      rw [eqv_str]
      have e1 : R[i]? = some R[i] := List.getElem?_eq_getElem hi
      have e2 : O[st.t + j]? = some O[st.t + j] := List.getElem?_eq_getElem hj
      have next : cond R O st.h st.t i (st.t + j) = false → ∀ c, st.t ≤ c → c < st.t + (j + 1) → cond R O st.h st.t i c = false := fun hc c h1 h2 => by
        by_cases h : c = st.t + j
        · subst h; exact hc
        · exact hno c h1 (by omega)
      by_cases h1 : R[i] = O[st.t + j]
      · rw [decide_eq_true h1]
        refine iteT ⟨_, rfl, ?_⟩
        by_cases h2 : 0 < lb R O st.h st.t
        · rw [decide_eq_true (show (0 : Int) < lb R O st.h st.t by omega)]
          refine iteT ?_
          refine ⟨_, atI_at (i := i + 1) (tab_get (by omega)), ?_⟩
          unfold rowD
          walk_at "dl"
          refine ⟨_, atI_at (i := st.t + j + 1) (row_get (by omega)), ?_⟩
          walk_at "dl"
          refine ρEq_d ⟨shaped_int _, shaped_int _, _, rfl, ?_⟩
          rw [eqv_int]
          by_cases h3 : 1 + lb R O (i + 1) (st.t + j + 1) = lb R O st.h st.t
          · rw [decide_eq_true (show (1 : Int) + lb R O (i + 1) (st.t + j + 1) = lb R O st.h st.t by omega)]
            refine iteT ?_
            have hc : cond R O st.h st.t i (st.t + j) = true := by
              unfold cond
              rw [decide_eq_true (show R[i]? = O[st.t + j]? by rw [e1, e2, h1]), decide_eq_true h2, decide_eq_true h3]; rfl
            have hpk : pick R O st.h st.t i = some (st.t + j) := by
              cases e : pick R O st.h st.t i with
              | none => rw [pick_none e _ (by omega) hj] at hc; cases hc
              | some b =>
                obtain ⟨g1, g2, g3, g4⟩ := pick_some e
                by_cases hb : b < st.t + j
                · rw [hno b g1 (by omega)] at g3; cases g3
                · by_cases hb2 : st.t + j < b
                  · rw [g4 _ (by omega) hb2] at hc; cases hc
                  · congr 1; omega
            have es2 : kst R O (i + 1) = ⟨i + 1, st.t + j + 1, st.f ++ [(i, st.t + j)]⟩ := by rw [es]; unfold kstep; rw [hpk]
            refine ⟨.inl ⟨rfl, _, mput_same⟩, [.int i, .int ((st.t + j : Nat) : Int)], rfl, sz (by simp), _, mput_same, szl (by simp [prs]; omega), ?_, _, _, _, by rw [es2]; rfl⟩
            rw [es2, mput_mput]
            simp [prs, prN]
          · rw [decide_eq_false (show ¬ (1 : Int) + lb R O (i + 1) (st.t + j + 1) = lb R O st.h st.t by omega)]
            refine iteF ⟨⟨rfl, _, rfl⟩, next ?_⟩
            unfold cond
            rw [decide_eq_false h3]; simp
        · rw [decide_eq_false (show ¬ (0 : Int) < lb R O st.h st.t by omega)]
          refine iteF (iteF ⟨⟨rfl, _, rfl⟩, next ?_⟩)
          unfold cond
          rw [decide_eq_false h2]; simp
      · rw [decide_eq_false h1]
        refine iteF (iteF ⟨⟨rfl, _, rfl⟩, next ?_⟩)
        unfold cond
        rw [decide_eq_false (show ¬ R[i]? = O[st.t + j]? by rw [e1, e2]; simpa using h1)]; rfl
    · rintro M' es' ⟨⟨rfl, s8, rfl⟩, hno⟩
      have hpk : pick R O st.h st.t i = none := by
        cases e : pick R O st.h st.t i with
        | none => rfl
        | some b =>
          obtain ⟨g1, g2, g3, g4⟩ := pick_some e
          rw [hno b g1 (by rw [l1]; omega)] at g3; cases g3
      have es2 : kst R O (i + 1) = st := by rw [es]; unfold kstep; rw [hpk]
      rw [es2]
      exact ⟨rfl, _, _, _, rfl⟩
  · rintro M' es' ⟨rfl, s6, s7, s8, rfl⟩
    walk_at "dl"
    rw [show ((↑(tx R).length : Int)).toNat = R.length by rw [l0]; omega]
    exact hp a ha
theorem prs_len (ps : List (Nat × Nat)) : (prs ps).length = ps.length := by simp [prs]
theorem does_least_cost : Does 2 φ_least_cost c_least_cost := by
  rintro M ss post ⟨R, O, rfl, hR, hO, hp⟩
  show c_least_cost _ M [.d (.list (tx R)), .d (.list (tx O))]
  unfold c_least_cost
  walk_at "dl"
  refine ⟨R, O, rfl, hR, hO, fun p hq => ρLen_m mput_same ?_⟩
  walk_at "dl"
  refine ⟨.inl ⟨by decide, by decide⟩, ?_⟩
  have h := hp p (.lst ((prs (kp R O)).map Sl.d)) hq
  have e : ((prs (kp R O)).map Sl.d).length = (kp R O).length := by rw [List.length_map, prs_len]
  rw [e]
  simpa using h
theorem does_least_change : Does 2 φ_least_change c_least_change := by
  rintro M ss post ⟨R, O, rfl, hR, hO, hp⟩
  show c_least_change _ M [.d (.list (tx R)), .d (.list (tx O))]
  unfold c_least_change
  walk_at "dl"
  refine ⟨R, O, rfl, hR, hO, fun p hq => ⟨R, O, rfl, hR, hO, fun M' b cs hl hv => ⟨sz (by simp), hp M' p b cs hq hl hv⟩⟩⟩
end Lst
set_option Elab.async false
set_option linter.all false
set_option autoImplicit false
set_option maxRecDepth 100000
set_option maxHeartbeats 4000000
namespace Lst
open PySem PySem.Spec PyProof.Rows L2 DL
local macro_rules | `(tactic| walk_at "dl") => `(tactic| try dsimp only [dSeq, dSet, dLstM, dOp, dV, dVs_d, dVs_m, dVs_s, dC, dCB, dCons, dNil, dLst, dTup, dUn, dB, dTru, dAnd, dOr, dNot, dAndV, dOrV, dNotV, dIfE, dIf, dRet, dExpr, dBM, dVF, dIn, dEnum, dZip, dRng1, dRng2, dPar, dAsg, dCall, dNext, dBreak, dYes, dSl, dPart, dNoP, dRev, dSub, dIsi, Tg.set, setAll_c, setAll_0, wipeS, wkD, wkR, ρAdd_int, ρAdd_str, ρAdd_tup, ρSub_int, ρMul_int, ρMod_int, ρDiv_int, ρPow_int, ρLt_int, ρLe_int, ρGt_int, ρGe_int, ρNeg_int, ρIx_lst, ρIx_tup, ρIx_str, ρIx_scr, ρLen_lst, ρLen_tup, ρLen_str, ρLen_scr, ρMax_2, ρMin_2, ρInt_int, ρInt_bool, ρApp_m, ρTru_b, ρTru_n, ρTru_i, ρTru_l, ρTru_t, ρWk_l, ρWk_t, ρWk_s, ρWk_m, ρWk_tt, ρIx_t, ρLen_t, ρTru_tt, dVs_t, dTupT, dEnumS, dZipS, ρSl_t, ρSl_s, ρSl_c, List.cons_append, List.nil_append, List.length_cons, List.length_nil, List.getElem?_cons_succ, List.getElem?_cons_zero, List.set_cons_succ, List.set_cons_zero, List.map])
theorem LvAt.upd {M M' : MHp} {b c : Addr} {cs : List Addr} {f f' : Nat → List (Nat × Nat)} {k0 : Nat} {p : Nat × Nat} (h : LvAt M M' b cs f) (hc : cs[k0]? = some c) (h1 : f' k0 = f k0 ++ [p]) (h2 : ∀ k, k ≠ k0 → f' k = f k) :
    LvAt M (mput M' c (.lst ((prs (f k0)).map Sl.d ++ [.d (prN p)]))) b cs f' := by
  have hm : c ∈ cs := List.mem_of_getElem? hc
  refine ⟨h.nb, h.nd, h.nc, fun a h3 h4 => ?_, ?_, fun k d hd => ?_⟩
  · have hne : a ≠ c := fun e => by subst e; exact h4 hm
    rw [mput_ne hne]; exact h.old a h3 h4
  · rw [mput_ne (h.nc c hm).2.symm]; exact h.at_b
  · by_cases e : k = k0
    · subst e
      rw [hc] at hd; cases hd
      rw [mput_same, h1]; simp [prs]
    · have hne : d ≠ c := fun z => by
        subst z
        exact e (nodup_at h.nd hd hc)
      rw [mput_ne hne, h2 k e]; exact h.at_c k d hd
def lvp (R O : List Str) (k i j : Nat) : List (Nat × Nat) := lvl R O k i O.length ++ ((List.range j).filter fun b => decide (R[i]? = O[b]?) && decide (lt R O i b = k)).map fun b => (i, b)
theorem lvp_full (R O : List Str) (k i : Nat) : lvp R O k i O.length = lvl R O k (i + 1) O.length := by
  unfold lvp lvl; rw [List.range_succ (n := i), List.flatMap_append]; simp
theorem lvp_0 (R O : List Str) (k i : Nat) : lvp R O k i 0 = lvl R O k i O.length := by simp [lvp]
theorem lvp_s (R O : List Str) (k i j : Nat) : lvp R O k i (j + 1) = lvp R O k i j ++ if (decide (R[i]? = O[j]?) && decide (lt R O i j = k)) = true then [(i, j)] else [] := by
  unfold lvp
  rw [List.range_succ, List.filter_append, List.map_append, List.append_assoc]
  congr 2
  simp only [List.filter_cons, List.filter_nil]
  split <;> simp
theorem lvp_len (R O : List Str) (k i j : Nat) (hj : j ≤ O.length) : (lvp R O k i j).length ≤ (i + 1) * O.length := by
  have h1 : ∀ n, (lvl R O k n O.length).length ≤ n * O.length := fun n => by
    induction n with
    | zero => simp [lvl]
    | succ n ih =>
      unfold lvl at ih ⊢
      rw [List.range_succ, List.flatMap_append, List.length_append, Nat.succ_mul]
      simp only [List.flatMap_cons, List.flatMap_nil, List.append_nil, List.length_map]
      have := List.length_filter_le (fun b => decide (R[n]? = O[b]?) && decide (lt R O n b = k)) (List.range O.length)
      rw [List.length_range] at this
      omega
  unfold lvp
  rw [List.length_append, List.length_map, Nat.succ_mul]
  have h2 := List.length_filter_le (fun b => decide (R[i]? = O[b]?) && decide (lt R O i b = k)) (List.range j)
  rw [List.length_range] at h2
  have := h1 i
  omega
theorem does_pair_levels : Does 8 φ_pair_levels c_pair_levels := by
  rintro M ss post ⟨R, O, rfl, hR, hO, hp⟩
  show c_pair_levels _ M [.d (.list (tx R)), .d (.list (tx O)), .n, .n, .n, .n, .n, .n]
  unfold c_pair_levels
  have lR := hR.few
  have lO := hO.few
  have l0 : (tx R).length = R.length := by simp
  have l1 : (tx O).length = O.length := by simp
  have ltb : lt R O R.length O.length ≤ R.length := by
    have : ∀ i j, lt R O i j ≤ i := fun i j => by
      obtain ⟨ps, u, hl⟩ := up_ex (R := R) (O := O) i j
      rw [← hl]
      clear hl
      induction u with
      | nil => simp
      | snoc _ h1 _ _ ih => simp; omega
    exact this _ _
  walk_at "dl"
  refine ⟨R, O, rfl, hR, hO, ?_⟩
  unfold dLc
  walk_at "dl"
  rw [l0, l1]
  refine ⟨_, atI_at (tab_get (Nat.le_refl _)), ?_⟩
  unfold rowD
  walk_at "dl"
  refine ⟨_, atI_at (row_get (Nat.le_refl _)), _, rfl, ⟨by omega, by omega⟩, fun b hb => ?_⟩
  refine ⟨fun i M' acc => ∃ cs, acc = cs.map Sl.m ∧ cs.length = i ∧ LvAt M M' b cs fun _ => [], ⟨[], rfl, rfl, hb, List.nodup_nil, (by simp), (fun a h1 _ => mput_ne h1), mput_same, (fun k c h => by simp at h)⟩, ?_, ?_, ?_⟩
  · rintro i M' acc hi ⟨cs, rfl, _, h⟩; exact ⟨trivial, h.at_b⟩
  · rintro i M' acc hi ⟨cs, rfl, hl, h⟩
    have hi : i < lt R O R.length O.length := by simpa using hi
    walk_at "dl"
    refine iteT ⟨sz (by omega), fun p hq => ?_⟩
    have npb : p ≠ b := fun e => by rw [e, h.at_b] at hq; cases hq
    have npc : p ∉ cs := fun hm => by
      obtain ⟨k, hk⟩ := List.getElem?_of_mem hm
      rw [h.at_c k p hk] at hq; cases hq
    have mp : M p = none := by rw [← h.old p npb npc]; exact hq
    refine ⟨by rw [mput_ne npb.symm]; exact h.at_b, szl (by simp; omega), cs ++ [p], by simp, by simp [hl], h.nb, ?_, ?_, ?_, ?_, ?_⟩
    · exact List.nodup_append.mpr ⟨h.nd, by simp, fun a ha c hc => by simp at hc; subst hc; exact fun e => npc (e ▸ ha)⟩
    · intro c hc
      rcases List.mem_append.mp hc with hc | hc
      · exact h.nc c hc
      · simp at hc; subst hc; exact ⟨mp, npb⟩
    · intro a h1 h2
      simp at h2
      rw [mput_ne h1, mput_ne h2.2]; exact h.old a h1 h2.1
    · rw [mput_same]; simp
    · intro k c hc
      by_cases hk : k < cs.length
      · rw [List.getElem?_append_left hk] at hc
        have hm := List.mem_of_getElem? hc
        have hne : c ≠ p := fun e => by subst e; exact npc hm
        rw [mput_ne (h.nc c hm).2, mput_ne hne]; exact h.at_c k c hc
      · rw [List.getElem?_append_right (by omega)] at hc
        have : c = p := by
          cases hz : k - cs.length with
          | zero => rw [hz] at hc; simpa using hc.symm
          | succ z => rw [hz] at hc; simp at hc
        subst this
        rw [mput_ne npb, mput_same]; rfl
  · rintro M1 acc ⟨cs, rfl, hl, h⟩
    have hl : cs.length = lt R O R.length O.length := by simpa using hl
    unfold finM dFor
    walk_at "dl"
    refine ⟨_, _, rfl, .inl rfl, fun i M' es' => LvAt M M' b cs (fun k => lvl R O k i O.length) ∧ ∃ s4 s5 s6 s7, es' = [.d (.list (tx R)), .d (.list (tx O)), .d (tabD R.length O.length (lt R O)), .m b, s4, s5, s6, s7], ⟨h, _, _, _, _, rfl⟩, fun _ _ _ _ _ => trivial, ?_, ?_⟩
    · rintro i M' es' hi ⟨hv, s4, s5, s6, s7, rfl⟩
      have hi : i < R.length := by simpa using hi
      unfold c_pair_levels_b2
      walk_at "dl"
      rw [tx_get hi]
      refine ⟨_, rfl, rfl, ?_⟩
      unfold dFor
      walk_at "dl"
      rw [l1]
      refine ⟨_, rfl, ⟨by omega, by omega⟩, fun j M' es' => LvAt M M' b cs (fun k => lvp R O k i j) ∧ ∃ s7, es' = [.d (.list (tx R)), .d (.list (tx O)), .d (tabD R.length O.length (lt R O)), .m b, s4, .d (.int i), .d (.str R[i]), s7], ⟨by simpa only [lvp_0] using hv, _, rfl⟩, fun _ _ _ _ _ => trivial, ?_, ?_⟩
      · rintro j M2 es' hj ⟨hv, s7, rfl⟩
        have hj : j < O.length := by simpa using hj
        unfold c_pair_levels_b1
        walk_at "dl"
        have ez : (0 + (j : Int)) = (j : Int) := by omega
        rw [ez]
        refine ⟨_, atI_at (i := j) (x := .str O[j]) (by simp [hj]), ρEq_d ⟨hR.ok _ (List.getElem_mem _), hO.ok _ (List.getElem_mem _), _, rfl, ?_⟩⟩
        rw [eqv_str]
        have e1 : R[i]? = some R[i] := List.getElem?_eq_getElem hi
        have e2 : O[j]? = some O[j] := List.getElem?_eq_getElem hj
        by_cases h1 : R[i] = O[j]
        · have e3 : R[i]? = O[j]? := by rw [e1, e2, h1]
          have hk : lt R O i j < cs.length := by
            have h2 := lt_mono (R := R) (O := O) (show i + 1 ≤ R.length by omega) (show j + 1 ≤ O.length by omega)
            rw [lt_ss, if_pos e3] at h2
            omega
          rw [decide_eq_true h1]
          refine iteT ?_
          refine ⟨_, atI_at (i := i) (tab_get (by omega)), ?_⟩
          unfold rowD
          walk_at "dl"
          refine ⟨_, atI_at (i := j) (row_get (by omega)), ?_⟩
          walk_at "dl"
          refine ρIx_ml hv.at_b ⟨_, atI_at (i := lt R O i j) (x := .m cs[lt R O i j]) (by simp [hk]), ?_⟩
          walk_at "dl"
          have hc : cs[lt R O i j]? = some cs[lt R O i j] := List.getElem?_eq_getElem hk
          have hM := hv.at_c _ _ hc
          have hb2 := lvp_len R O (lt R O i j) i j (by omega)
          have hb3 : (i + 1) * O.length ≤ 1000 * 1000 := Nat.mul_le_mul (by omega) lO
          refine ⟨.inl ⟨rfl, _, hM⟩, [.int i, .int j], rfl, sz (by simp), _, hM, szl (by simp [prs]; omega), ?_, _, rfl⟩
          refine hv.upd (p := (i, j)) hc ?_ fun k hne => ?_
          · rw [lvp_s, e3]; simp
          · rw [lvp_s, if_neg (by simp; intro _ h; exact hne h.symm)]; simp
        · rw [decide_eq_false h1]
          refine iteF ⟨?_, _, rfl⟩
          have e3 : ¬ R[i]? = O[j]? := by rw [e1, e2]; simpa using h1
          have : (fun k => lvp R O k i (j + 1)) = fun k => lvp R O k i j := by
            funext k; rw [lvp_s, decide_eq_false e3]; simp
          rw [this]; exact hv
      · rintro M2 es' ⟨hv, s7, rfl⟩
        refine ⟨?_, _, _, _, _, rfl⟩
        have : (fun k => lvl R O k (i + 1) O.length) = fun k => lvp R O k i O.length := by funext k; rw [lvp_full]
        rw [this]
        simpa using hv
    · rintro M2 es' ⟨hv, s4, s5, s6, s7, rfl⟩
      walk_at "dl"
      rw [l0] at hv
      exact hp M2 b cs hl hv
end Lst
set_option Elab.async false
set_option linter.all false
set_option autoImplicit false
set_option maxRecDepth 100000
set_option maxHeartbeats 4000000
namespace Lst
open PySem PySem.Spec PyProof.Rows L2 DL
local macro_rules | `(tactic| walk_at "dl") => `(tactic| try dsimp only [dSeq, dSet, dLstM, dOp, dV, dVs_d, dVs_m, dVs_s, dC, dCB, dCons, dNil, dLst, dTup, dUn, dB, dTru, dAnd, dOr, dNot, dAndV, dOrV, dNotV, dIfE, dIf, dRet, dExpr, dBM, dVF, dIn, dEnum, dZip, dRng1, dRng2, dPar, dAsg, dCall, dNext, dBreak, dYes, dSl, dPart, dNoP, dRev, dSub, dIsi, Tg.set, setAll_c, setAll_0, wipeS, wkD, wkR, ρAdd_int, ρAdd_str, ρAdd_tup, ρSub_int, ρMul_int, ρMod_int, ρDiv_int, ρPow_int, ρLt_int, ρLe_int, ρGt_int, ρGe_int, ρNeg_int, ρIx_lst, ρIx_tup, ρIx_str, ρIx_scr, ρLen_lst, ρLen_tup, ρLen_str, ρLen_scr, ρMax_2, ρMin_2, ρInt_int, ρInt_bool, ρApp_m, ρTru_b, ρTru_n, ρTru_i, ρTru_l, ρTru_t, ρWk_l, ρWk_t, ρWk_s, ρWk_m, ρWk_tt, ρIx_t, ρLen_t, ρTru_tt, dVs_t, dTupT, dEnumS, dZipS, ρSl_t, ρSl_s, ρSl_c, List.cons_append, List.nil_append, List.length_cons, List.length_nil, List.getElem?_cons_succ, List.getElem?_cons_zero, List.set_cons_succ, List.set_cons_zero, List.map])
theorem ks1 : ¬ (("script" : Str) = "at") := by decide +kernel
theorem ks2 : ¬ (("script" : Str) = "rest") := by decide +kernel
theorem ks3 : ¬ (("at" : Str) = "rest") := by decide +kernel
theorem kk {x y : Str} (h : ¬ x = y) : ¬ ((Sum.inr x : Key) = Sum.inr y) := fun e => h (Sum.inr.inj e)
theorem DSt.g_at {M : MHp} {m r : Addr} {ns : List Int} {k : Nat} (h : DSt M m r ns k) : GetS M m (.str "at") (some (.d (.int k))) := by
  unfold GetS; rw [h.md]
  refine ⟨.inr "at", rfl, ?_⟩
  simp [gVal, List.find?_cons, kk ks1]
theorem DSt.g_script {M : MHp} {m r : Addr} {ns : List Int} {k : Nat} (h : DSt M m r ns k) : GetS M m (.str "script") (some (.s ns)) := by
  unfold GetS; rw [h.md]
  refine ⟨.inr "script", rfl, ?_⟩
  simp [gVal, List.find?_cons]
theorem DSt.g_rest {M : MHp} {m r : Addr} {ns : List Int} {k : Nat} (h : DSt M m r ns k) : GetS M m (.str "rest") (some (.m r)) := by
  unfold GetS; rw [h.md]
  refine ⟨.inr "rest", rfl, ?_⟩
  simp [gVal, List.find?_cons, kk ks2, kk ks3]
theorem DSt.p_at {M : MHp} {m r : Addr} {ns : List Int} {k : Nat} (h : DSt M m r ns k) {Q : MHp → Prop} (hq : ∀ M', DSt M' m r ns (k + 1) → (∀ a, a ≠ m → M' a = M a) → Q M') : PutS M m (.str "at") (.d (.int ((k : Int) + 1))) Q := by
  unfold PutS; rw [h.md]
  refine ⟨.inr "at", rfl, szl (by simp), hq _ ⟨h.ne, ?_, ?_⟩ fun a ha => mput_ne ha⟩
  · rw [mput_same]
    simp [gPut, kk ks1, kk ks3, kk (Ne.symm ks3)]
  · obtain ⟨rs, h1, h2⟩ := h.rs
    exact ⟨rs, h1, by rw [mput_ne h.ne.symm]; exact h2⟩
theorem does__law_started : Does 2 φ__law_started c__law_started := by
  rintro M ss post ⟨ns, rfl, hl, hp⟩
  show c__law_started _ M [.s ns, .n]
  unfold c__law_started
  walk_at "dl"
  unfold dDisp
  intro p hq
  unfold dPairs dPairs dPairs dPairs
  walk_at "dl"
  unfold dLc
  walk_at "dl"
  intro Dn hD
  have npD : p ≠ Dn := fun e => by subst e; rw [mput_same] at hD; cases hD
  have hD0 : M Dn = none := by rw [mput_ne npD.symm] at hD; exact hD
  refine ⟨fun i M' acc => ∃ rs : List Int, rs.length = i ∧ acc = (rs.map PyData.int).map Sl.d ∧ M' = mput (mput M p (.dK [])) Dn (.lst acc), ⟨[], rfl, rfl, rfl⟩, ?_, ?_, ?_⟩
  · rintro i M' acc _ ⟨rs, _, _, rfl⟩; exact ⟨trivial, mput_same⟩
  · rintro i M' acc hi ⟨rs, hrl, rfl, rfl⟩
    have hi : i < ns.length := by simpa using hi
    have e : (ns.map PyData.int).getD i .none = .int ns[i] := by simp [List.getD_eq_getElem?_getD, hi]
    rw [e]
    walk_at "dl"
    refine iteT ⟨⟨by decide, by decide, by decide⟩, ?_⟩
    walk_at "dl"
    refine ⟨.inr (by split <;> decide), mput_same, szl (by simp; omega), rs ++ [_], by simp [hrl], by rw [List.map_append, List.map_append]; rfl, by rw [mput_mput]⟩
  · rintro M' acc ⟨rs, hrl, rfl, rfl⟩
    unfold finM
    refine ⟨by rw [mput_ne npD, mput_same], [(.inr "script", .s ns), (.inr "at", .d (.int 0)), (.inr "rest", .m Dn)], .cons ⟨⟨_, rfl, rfl⟩, rfl⟩ (.cons ⟨⟨_, rfl, rfl⟩, rfl⟩ (.cons ⟨⟨_, rfl, rfl⟩, rfl⟩ .nil)), by simp, ?_⟩
    refine hp _ p Dn ⟨npD, ?_, rs, by simpa using hrl, ?_⟩ hq hD0 fun a h1 h2 => ?_
    · rw [mput_same]
      simp [gMerge, gPut, kk ks1, kk ks2, kk ks3]
    · rw [mput_ne npD.symm, mput_same]
    · rw [mput_ne h1, mput_ne h2, mput_ne h1]
theorem ixN_at {n j : Nat} (h : j < n) : ixN n (j : Int) = some j := by
  unfold ixN; rw [if_pos (by omega), if_pos (by omega), Int.toNat_natCast]
theorem DSt.off {M M' : MHp} {m r : Addr} {ns : List Int} {k : Nat} (h : DSt M m r ns k) (e1 : M' m = M m) (e2 : M' r = M r) : DSt M' m r ns k := ⟨h.ne, e1.trans h.md, let ⟨rs, a, b⟩ := h.rs; ⟨rs, a, e2.trans b⟩⟩
theorem does__law_draw : Does 7 φ__law_draw c__law_draw := by
  rintro M ss post ⟨m, r, ns, k, many, rfl, hd, h0, h1, hk, hl, hp⟩
  show c__law_draw _ M [.m m, .d (.int many), .n, .n, .n, .n, .n]
  unfold c__law_draw
  walk_at "dl"
  refine ⟨m, _, _, rfl, rfl, hd.g_at, ?_⟩
  walk_at "dl"
  refine .inr (hd.p_at fun M1 hd1 hoff1 => ?_)
  refine ⟨m, _, _, rfl, rfl, hd1.g_script, ?_⟩
  refine ⟨m, _, _, rfl, rfl, hd1.g_rest, ?_⟩
  obtain ⟨rs, hrl, hr⟩ := hd1.rs
  have hoff : Off M M1 m r := fun a ha _ => hoff1 a ha
  refine ⟨[], rfl, sz (by simp), _, _, ⟨rs.map PyData.int, rfl, hr⟩, rfl, (sh_ints (by omega)).shaped (by omega), rfl, _, rfl, ?_⟩
  have enil : PyData.eqv (.list (rs.map PyData.int)) (.list []) = decide (rs = []) := by
    cases rs with
    | nil => simp [PyData.eqv, PyData.eqvAll]
    | cons x xs => simp [PyData.eqv, PyData.eqvAll]
  have enils : PyData.eqv (.list (ns.map PyData.int)) (.list []) = decide (ns = []) := by
    cases ns with
    | nil => simp [PyData.eqv, PyData.eqvAll]
    | cons x xs => simp [PyData.eqv, PyData.eqvAll]
  rw [enil]
  have fin : ∀ (s4 : Sl) (c : Int), (dSeq (dSet 6 (dOp ρMod (dOp ρAdd (dOp ρAdd (dOp ρMul (dOp ρMod (dV 5) (dC (.int 2147483629))) (dC (.int 48271))) (dOp ρMul (dOp ρMul (dC (.int 69621)) (dV 2)) (dV 2))) (dC (.int 104729))) (dC (.int 2147483647))))
  (dSeq (dSet 6 (dOp ρMod (dOp ρMul (dV 6) (dOp ρAdd (dC (.int 16807)) (dOp ρMul (dC (.int 2)) (dV 2)))) (dC (.int 2147483629))))
  (dRet (dOp ρMod (dOp ρDiv (dOp ρMod (dOp ρMul (dV 6) (dV 6)) (dC (.int 1000000007))) (dC (.int 7))) (dV 1))))) { nx := fun M' _ => post M' (.d .none), rt := post } M1 [.m m, .d (.int many), .d (.int k), .s ns, s4, .d (.int c), .n] := fun s4 c => by
    walk_at "dl"
    refine ⟨by decide, .inr ⟨by decide, by decide⟩, .inl ⟨by decide, by decide⟩, .inr ⟨by omega, by omega⟩, by decide, .inl ⟨by decide, by decide⟩, .inr ⟨by omega, by omega⟩, by decide, ?_, by decide, ⟨by decide, by decide +kernel⟩, h0, ?_⟩
    · generalize hz : (_ : Int) % 2147483629 = z
      have z1 : 0 ≤ z := by rw [← hz]; exact Int.emod_nonneg _ (by decide)
      have z2 : z < 2147483629 := by rw [← hz]; exact Int.emod_lt_of_pos _ (by decide)
      exact .inl ⟨by omega, by omega⟩
    · exact hp M1 _ hd1 hoff (Int.emod_nonneg _ (by omega)) (Int.emod_lt_of_pos _ h0)
  have em : ∀ n : Nat, ((k : Int) % (n : Int)) = ((k % n : Nat) : Int) := fun n => (Int.natCast_emod k n).symm
  have mixed : ∀ (s4 : Sl), (dSeq (dSet 5 (dIfE (dB (dOp ρNe (dV 3) (dLst dNil))) (dOp ρIx (dV 3) (dOp ρMod (dV 2) (dCB ρLen (dCons (dV 3) dNil)))) (dC (.int 0))))
  (dSeq (dSet 6 (dOp ρMod (dOp ρAdd (dOp ρAdd (dOp ρMul (dOp ρMod (dV 5) (dC (.int 2147483629))) (dC (.int 48271))) (dOp ρMul (dOp ρMul (dC (.int 69621)) (dV 2)) (dV 2))) (dC (.int 104729))) (dC (.int 2147483647))))
  (dSeq (dSet 6 (dOp ρMod (dOp ρMul (dV 6) (dOp ρAdd (dC (.int 16807)) (dOp ρMul (dC (.int 2)) (dV 2)))) (dC (.int 2147483629))))
  (dRet (dOp ρMod (dOp ρDiv (dOp ρMod (dOp ρMul (dV 6) (dV 6)) (dC (.int 1000000007))) (dC (.int 7))) (dV 1)))))) { nx := fun M' _ => post M' (.d .none), rt := post } M1 [.m m, .d (.int many), .d (.int k), .s ns, s4, .n, .n] := fun s4 => by
    show dIfE _ _ _ M1 _ _
    walk_at "dl"
    refine ⟨[], rfl, sz (by simp), _, _, rfl, rfl, (sh_ints (by omega)).shaped (by omega), rfl, _, rfl, ?_⟩
    rw [enils]
    by_cases hn : ns = []
    · rw [decide_eq_true hn]
      exact iteF (fin s4 0)
    · rw [decide_eq_false hn]
      have hn' : 0 < ns.length := List.length_pos_iff.mpr hn
      refine iteT ⟨by omega, ?_⟩
      rw [em]
      have hlt := Nat.mod_lt k hn'
      exact ⟨_, atI_at (List.getElem?_eq_getElem hlt), fin s4 _⟩
  by_cases hn : rs = []
  · rw [decide_eq_true hn]
    refine iteF ⟨_, rfl, iteF (mixed (.d (.int 0)))⟩
  · rw [decide_eq_false hn]
    have hn' : 0 < rs.length := List.length_pos_iff.mpr hn
    refine iteT ⟨m, _, _, rfl, rfl, hd1.g_rest, ?_⟩
    walk_at "dl"
    refine ⟨by omega, ?_⟩
    rw [em]
    have hlt : k % ns.length < rs.length := by rw [hrl]; exact Nat.mod_lt k (by omega)
    refine ρIx_ml hr ⟨.d (.int rs[k % ns.length]), atI_at (by simp [hlt]), ?_⟩
    walk_at "dl"
    refine ⟨_, rfl, ?_⟩
    by_cases hpos : 0 < rs[k % ns.length]
    · rw [decide_eq_true hpos]
      refine iteT ⟨⟨h0, ?_⟩, ?_⟩
      · have : many.natAbs < 2 ^ 60 := by omega
        exact Nat.lt_of_lt_of_le (PySem.Flt.log2_lt_of (by omega) this) (by omega)
      refine ⟨m, _, _, rfl, rfl, hd1.g_rest, by omega, ?_⟩
      try rw [em]
      refine .inl ⟨_, _, k % ns.length, hr, rfl, ?_, h0, ?_⟩
      · exact ixN_at (by simpa using hlt)
      · refine hp _ _ ⟨hd1.ne, by rw [mput_ne hd1.ne]; exact hd1.md, rs.set (k % ns.length) (rs[k % ns.length] / many), by simp [hrl], ?_⟩ (fun a ha hb => ?_) (Int.emod_nonneg _ (by omega)) (Int.emod_lt_of_pos _ h0)
        · rw [mput_same, List.map_set, List.map_set]
        · rw [mput_ne hb]; exact hoff a ha hb
    · rw [decide_eq_false hpos]
      exact iteF (mixed (.d (.int rs[k % ns.length])))
theorem does__law_of : Does 2 φ__law_of c__law_of := by
  rintro M ss post ⟨m, r, ns, k, ds, rfl, hd, h0, h1, hk, hl, hp⟩
  show c__law_of _ M [.m m, .d (.list ds)]
  unfold c__law_of
  walk_at "dl"
  refine ⟨m, r, ns, k, _, rfl, hd, by omega, by omega, hk, hl, fun M' v hd' hoff v0 v1 => ?_⟩
  walk_at "dl"
  have hv : v.toNat < ds.length := by omega
  refine ⟨ds[v.toNat], ?_, hp M' _ hd' hoff (List.getElem_mem _)⟩
  have := atI_at (List.getElem?_eq_getElem hv)
  rwa [show ((v.toNat : Nat) : Int) = v by omega] at this
theorem zip_same {xs : List PyData} {i : Nat} (h : i < xs.length) : xs.getD i .none ∈ xs := by
  rw [List.getD_eq_getElem?_getD, List.getElem?_eq_getElem h]; exact List.getElem_mem _
theorem sh_ty {n : Nat} {x : PyData} (h : Sh n x) : (∃ i, x = .int i) ∨ (∃ xs, x = .list xs) ∨ ∃ xs, x = .tuple xs := by
  induction n with
  | zero => exact .inl h
  | succ n ih =>
    rcases h with h | ⟨xs, h | h, _⟩
    · exact ih h
    · exact .inr (.inl ⟨_, h⟩)
    · exact .inr (.inr ⟨_, h⟩)
theorem sh_items {n : Nat} {xs : List PyData} (h : Sh n (.list xs) ∨ Sh n (.tuple xs)) : ∃ k, n = k + 1 ∧ xs.length ≤ 100000 ∧ ∀ y ∈ xs, Sh k y := by
  induction n with
  | zero => rcases h with ⟨i, h⟩ | ⟨i, h⟩ <;> cases h
  | succ n ih =>
    have up : ∀ k, n = k + 1 → (∀ y ∈ xs, Sh k y) → ∀ y ∈ xs, Sh n y := fun k e hh y hy => by subst e; exact .inl (hh y hy)
    rcases h with (h | ⟨ys, h, h1, h2⟩) | (h | ⟨ys, h, h1, h2⟩)
    · obtain ⟨k, e, h1, h2⟩ := ih (.inl h); exact ⟨n, rfl, h1, up k e h2⟩
    · rcases h with h | h <;> cases h; exact ⟨n, rfl, h1, h2⟩
    · obtain ⟨k, e, h1, h2⟩ := ih (.inr h); exact ⟨n, rfl, h1, up k e h2⟩
    · rcases h with h | h <;> cases h; exact ⟨n, rfl, h1, h2⟩
theorem dv_d {M : MHp} {x : PyData} : ∀ n, DV n M (.d x) x
  | 0 => rfl
  | _ + 1 => .inl rfl
theorem DV.put {M : MHp} {D : Addr} {o : MO} (hD : M D = none) : ∀ {n : Nat} {s : Sl} {x : PyData}, DV n M s x → DV n (mput M D o) s x
  | 0, _, _, h => h
  | n + 1, s, x, h => by
    rcases h with h | ⟨a, ss, ds, h1, h2, h3, h4, h5⟩
    · exact .inl h
    · refine .inr ⟨a, ss, ds, h1, h2, ?_, h4, fun i hi => (h5 i hi).put hD⟩
      rw [mput_ne (m_ne h3 hD)]; exact h3
theorem dv_list {n : Nat} {M : MHp} {s : Sl} {xs : List PyData} (h : DV n M s (.list xs)) (hs : Sh n (.list xs)) : ∃ k ss, n = k + 1 ∧ xs.length ≤ 100000 ∧ LsS M s ss ∧ ss.length = xs.length ∧ (∀ D o, M D = none → LsSt s ss (mput M D o)) ∧ tyN M s "list" ∧ (∀ post : DP, post M (.d (.int xs.length)) → ρLen [s] M post) ∧ (∀ post : DP, post M s → dVs (some s) M post) ∧ ∀ i, i < xs.length → DV k M (ss.getD i .n) (xs.getD i .none) ∧ Sh k (xs.getD i .none) := by
  obtain ⟨k, rfl, hl, hit⟩ := sh_items (n := n) (xs := xs) (.inl hs)
  have hsh : ∀ i, i < xs.length → Sh k (xs.getD i .none) := fun i hi => hit _ (by rw [List.getD_eq_getElem?_getD, List.getElem?_eq_getElem hi]; exact List.getElem_mem hi)
  rcases h with rfl | ⟨a, ss, ds, rfl, h2, h3, h4, h5⟩
  · refine ⟨k, xs.map Sl.d, rfl, hl, rfl, by simp, fun _ _ _ => trivial, rfl, fun _ h => h, fun _ h => h, fun i hi => ⟨?_, hsh i hi⟩⟩
    have e : (xs.map Sl.d).getD i .n = .d (xs.getD i .none) := by simp [List.getD_eq_getElem?_getD, hi]
    rw [e]; exact dv_d k
  · cases h2
    refine ⟨k, ss, rfl, hl, h3, h4, fun D o hD => ?_, ?_, fun post hp => ρLen_m h3 (by rw [h4]; exact hp), fun _ h => h, fun i hi => ⟨h5 i hi, hsh i hi⟩⟩
    · show mput M D o a = some (.lst ss)
      rw [mput_ne (m_ne h3 hD)]; exact h3
    · show (match M a with | some (.lst _) => _ | some (.dK _) => _ | some (.dT _) => _ | _ => False)
      rw [h3]
theorem dv_other {n : Nat} {M : MHp} {s : Sl} {x : PyData} (h : DV n M s x) (hx : ∀ xs, x ≠ .list xs) : s = .d x := by
  cases n with
  | zero => exact h
  | succ n =>
    rcases h with h | ⟨a, ss, ds, _, h2, _⟩
    · exact h
    · exact absurd h2 (hx ds)
theorem dv_vs {n : Nat} {M M' : MHp} {s : Sl} {x : PyData} {post : DP} (h : DV n M s x) (hp : post M' s) : dVs (some s) M' post := by
  cases n with
  | zero => have h : s = .d x := h; subst h; exact hp
  | succ n =>
    rcases h with rfl | ⟨a, ss, ds, rfl, _⟩
    · exact hp
    · exact hp
theorem does_alike {n : Nat} {φ : DF} (hφ : ∀ k, n = k + 1 → φ = alikeN k) : Does 4 (alikeN n) (c__law_alike φ) := by
  rintro M ss post ⟨s, x, rfl, hv, hx, hp⟩
  show c__law_alike φ _ M [s, .d x, .n, .n]
  unfold c__law_alike
  have all_true : ∀ n : Nat, (List.range n).filterMap (fun _ => some (PyData.bool true)) = (List.replicate n true).map PyData.bool := fun n => by
    rw [List.filterMap_eq_map', List.map_replicate, List.map_const', List.length_range]
  rcases sh_ty hx with ⟨i, rfl⟩ | ⟨xs, rfl⟩ | ⟨xs, rfl⟩
  · cases dv_other hv fun _ e => by cases e
    walk_at "dl"
    refine ⟨"int", rfl, ?_⟩
    walk_at "dl"
    refine iteF ⟨"int", rfl, "int", rfl, ρEq_d ⟨rfl, rfl, _, rfl, iteT (ρEq_d ⟨shaped_int _, shaped_int _, ?_⟩)⟩⟩
    rw [eqv_int, decide_eq_true rfl]
    exact hp
  · obtain ⟨k, us, e, hl, h1, h2, h3, h4, h5, h6, h7⟩ := dv_list hv hx
    have hφk := hφ k e
    subst hφk
    walk_at "dl"
    refine ⟨"list", rfl, ?_⟩
    walk_at "dl"
    refine iteT (h6 _ ⟨"list", h4, "list", rfl, ρNe_d ⟨rfl, rfl, _, rfl, iteF (h6 _ ⟨"list", h4, iteF (h6 _ (h5 _ ?_))⟩)⟩⟩)
    walk_at "dl"
    refine ρEq_d ⟨shaped_int _, shaped_int _, _, rfl, ?_⟩
    rw [eqv_int, decide_eq_true rfl]
    refine iteT ?_
    refine lc_pure ⟨min us.length (xs.map Sl.d).length, fun i => .t [us.getD i .n, (xs.map Sl.d).getD i .n], fun M => LsSt s us M ∧ LsSt (.d (.list xs)) (xs.map Sl.d) M⟩ (fun _ => some (.bool true)) (fun C hC => ?_) (by show min _ _ ≤ _; simp; omega) (fun Dn acc hD => ⟨h3 _ _ hD, trivial⟩) (fun i hi Dn acc hD A B hA hB => ?_) ?_
    · walk_at "dl"
      exact h6 _ ⟨_, _, _, _, rfl, .inl ⟨h1, rfl⟩, hC⟩
    · have hi : i < xs.length := by have : i < min us.length (xs.map Sl.d).length := hi; simp at this; omega
      walk_at "dl"
      refine ⟨_, rfl, rfl, ?_⟩
      walk_at "dl"
      have e9 : (xs.map Sl.d).getD i .n = .d (xs.getD i .none) := by simp [List.getD_eq_getElem?_getD, hi]
      rw [e9]
      obtain ⟨g1, g2⟩ := h7 i hi
      exact iteT (dv_vs g1 ⟨_, _, rfl, g1.put hD, g2, hA _ rfl⟩)
    · walk_at "dl"
      refine ⟨_, List.replicate xs.length true, rfl, ?_, ?_⟩
      · show (List.range (min us.length (xs.map Sl.d).length)).filterMap _ = _
        rw [List.length_map, h2, Nat.min_self, all_true]
      · simpa using hp
  · cases dv_other hv fun _ e => by cases e
    obtain ⟨k, e, hl, hit⟩ := sh_items (n := n) (xs := xs) (.inr hx)
    have hφk := hφ k e
    subst hφk
    have hsh : ∀ i, i < xs.length → Sh k (xs.getD i .none) := fun i hi => hit _ (by rw [List.getD_eq_getElem?_getD, List.getElem?_eq_getElem hi]; exact List.getElem_mem hi)
    walk_at "dl"
    refine ⟨"tuple", rfl, ?_⟩
    walk_at "dl"
    refine iteT ⟨"tuple", rfl, "tuple", rfl, ρNe_d ⟨rfl, rfl, _, rfl, iteF ⟨"tuple", rfl, iteF ?_⟩⟩⟩
    walk_at "dl"
    refine ρEq_d ⟨shaped_int _, shaped_int _, _, rfl, ?_⟩
    rw [eqv_int, decide_eq_true rfl]
    refine iteT ?_
    refine lc_pure ⟨min (xs.map Sl.d).length (xs.map Sl.d).length, fun i => .t [(xs.map Sl.d).getD i .n, (xs.map Sl.d).getD i .n], fun M => LsSt (.d (.tuple xs)) (xs.map Sl.d) M ∧ LsSt (.d (.tuple xs)) (xs.map Sl.d) M⟩ (fun _ => some (.bool true)) (fun C hC => ?_) (by show min _ _ ≤ _; simp; omega) (fun Dn acc hD => ⟨trivial, trivial⟩) (fun i hi Dn acc hD A B hA hB => ?_) ?_
    · walk_at "dl"
      exact ⟨_, _, _, _, rfl, .inr ⟨xs, xs, rfl, rfl, rfl, rfl⟩, hC⟩
    · have hi : i < xs.length := by have : i < min (xs.map Sl.d).length (xs.map Sl.d).length := hi; simp at this; omega
      walk_at "dl"
      refine ⟨_, rfl, rfl, ?_⟩
      walk_at "dl"
      have e9 : (xs.map Sl.d).getD i .n = .d (xs.getD i .none) := by simp [List.getD_eq_getElem?_getD, hi]
      rw [e9]
      exact iteT ⟨_, _, rfl, dv_d k, hsh i hi, hA _ rfl⟩
    · walk_at "dl"
      refine ⟨_, List.replicate xs.length true, rfl, ?_, ?_⟩
      · show (List.range (min (xs.map Sl.d).length (xs.map Sl.d).length)).filterMap _ = _
        rw [List.length_map, Nat.min_self, all_true]
      · simpa using hp
end Lst
set_option Elab.async false
set_option linter.all false
set_option autoImplicit false
set_option maxRecDepth 100000
set_option maxHeartbeats 4000000
namespace Lst
open PySem PySem.Spec PyProof.Rows L2 DL
local macro_rules | `(tactic| walk_at "dl") => `(tactic| try dsimp only [dSeq, dSet, dLstM, dOp, dV, dVs_d, dVs_m, dVs_s, dC, dCB, dCons, dNil, dLst, dTup, dUn, dB, dTru, dAnd, dOr, dNot, dAndV, dOrV, dNotV, dIfE, dIf, dRet, dExpr, dBM, dVF, dIn, dEnum, dZip, dRng1, dRng2, dPar, dAsg, dCall, dNext, dBreak, dYes, dSl, dPart, dNoP, dRev, dSub, dIsi, Tg.set, setAll_c, setAll_0, wipeS, wkD, wkR, ρAdd_int, ρAdd_str, ρAdd_tup, ρSub_int, ρMul_int, ρMod_int, ρDiv_int, ρPow_int, ρLt_int, ρLe_int, ρGt_int, ρGe_int, ρNeg_int, ρIx_lst, ρIx_tup, ρIx_str, ρIx_scr, ρLen_lst, ρLen_tup, ρLen_str, ρLen_scr, ρMax_2, ρMin_2, ρInt_int, ρInt_bool, ρApp_m, ρTru_b, ρTru_n, ρTru_i, ρTru_l, ρTru_t, ρWk_l, ρWk_t, ρWk_s, ρWk_m, ρWk_tt, ρIx_t, ρLen_t, ρTru_tt, dVs_t, dTupT, dEnumS, dZipS, ρSl_t, ρSl_s, ρSl_c, List.cons_append, List.nil_append, List.length_cons, List.length_nil, List.getElem?_cons_succ, List.getElem?_cons_zero, List.set_cons_succ, List.set_cons_zero, List.map])
theorem DSt.fresh {M : MHp} {m r D : Addr} {ns : List Int} {k : Nat} (h : DSt M m r ns k) (hD : M D = none) : m ≠ D ∧ r ≠ D := by
  refine ⟨fun e => ?_, fun e => ?_⟩
  · subst e; rw [h.md] at hD; cases hD
  · subst e; obtain ⟨_, _, h2⟩ := h.rs; rw [h2] at hD; cases hD
theorem DSt.put {M : MHp} {m r D : Addr} {ns : List Int} {k : Nat} {o : MO} (h : DSt M m r ns k) (n1 : m ≠ D) (n2 : r ≠ D) : DSt (mput M D o) m r ns k := h.off (mput_ne n1) (mput_ne n2)
theorem DSt.del {M : MHp} {m r D : Addr} {ns : List Int} {k : Nat} (h : DSt M m r ns k) (n1 : m ≠ D) (n2 : r ≠ D) : DSt (mdel M D) m r ns k := h.off (mdel_ne n1) (mdel_ne n2)
theorem rows_lc {M : MHp} {m r : Addr} {ns : List Int} {k : Nat} {S : List Str} {s2 s3 s4 s5 s6 : Sl} {post : DP} (hd : DSt M m r ns k) (hk : k < 2 ^ 21) (hl : ns.length ≤ 63) (hS : ∀ t ∈ S, SeqAt.shaped (.str t) = true) (h0 : 0 < S.length) (h4 : S.length ≤ 5)
    (hp : ∀ M' R k', TxOk R → R.length ≤ 12 → DSt M' m r ns k' → k' ≤ k + 13 → post M' (.d (.list (tx R)))) :
    dLc finD (dRng1 (dCons (dCall φ__law_draw (dCons (dV 0) (dCons (dC (.int 13)) dNil))) dNil)) (.nm 3) dYes (dCall φ__law_of (dCons (dV 0) (dCons (dV 1) dNil))) [3] M [.m m, .d (.list (tx S)), s2, s3, s4, s5, s6] post := by
  unfold dLc
  walk_at "dl"
  refine ⟨m, r, ns, k, 13, rfl, hd, by omega, by omega, by omega, hl, fun M1 v hd1 _ v1 v2 => ⟨v, rfl, ⟨by omega, by omega⟩, fun Dn hD => ?_⟩⟩
  obtain ⟨n1, n2⟩ := hd1.fresh hD
  refine ⟨fun i M' acc => ∃ R : List Str, acc = (tx R).map Sl.d ∧ R.length = i ∧ (∀ t ∈ R, SeqAt.shaped (.str t) = true) ∧ DSt M' m r ns (k + 1 + i) ∧ M' Dn = some (.lst acc), ⟨[], rfl, rfl, (fun t ht => by cases ht), hd1.put n1 n2, mput_same⟩, ?_, ?_, ?_⟩
  · rintro i M' acc _ ⟨R, rfl, _, _, _, h⟩
    exact ⟨trivial, h⟩
  · rintro i M' acc hi ⟨R, rfl, hR, hok, hd', hM⟩
    have hi : i < v.toNat := hi
    refine iteT ⟨m, r, ns, k + 1 + i, tx S, rfl, hd', by simpa using h0, by simp; omega, by omega, hl, fun M2 d hd2 off hm => ?_⟩
    obtain ⟨t, ht, rfl⟩ := List.mem_map.mp hm
    refine ⟨by rw [off Dn n1.symm n2.symm]; exact hM, szl (by simp; omega), R ++ [t], by simp, by simp [hR], fun u hu => ?_, hd2.put n1 n2, mput_same⟩
    rcases List.mem_append.mp hu with h | h
    · exact hok u h
    · simp at h; subst h; exact hS u ht
  · rintro M' acc ⟨R, rfl, hR, hok, hd', hM⟩
    have hR : R.length = v.toNat := hR
    exact ⟨tx R, rfl, hp _ R _ ⟨by omega, hok⟩ (by omega) (hd'.del n1 n2) (by have : (v.toNat : Int) = v := Int.toNat_of_nonneg v1; show k + 1 + v.toNat ≤ _; omega)⟩
theorem sIx_at (n d k : Nat) : HT.sIx n d (some (k : Int)) = min k n := HT.sIx_nat n d k
theorem cut_head {α : Type} {xs : List α} {a : Nat} : DL.cutD xs none (some (a : Int)) = xs.take a := by
  unfold DL.cutD
  rw [sIx_at]
  show (xs.drop 0).take (min a xs.length - 0) = _
  rw [List.drop_zero, Nat.sub_zero, ← List.take_eq_take_min]
theorem cut_tail {α : Type} {xs : List α} {a : Nat} : DL.cutD xs (some (a : Int)) none = xs.drop a := by
  unfold DL.cutD
  rw [sIx_at]
  show (xs.drop (min a xs.length)).take (xs.length - min a xs.length) = _
  by_cases h : a ≤ xs.length
  · rw [Nat.min_eq_left h, List.take_of_length_le (by simp)]
  · rw [Nat.min_eq_right (by omega), List.drop_of_length_le (Nat.le_refl _), List.drop_of_length_le (by omega), List.take_nil]
theorem does__law_rows : Does 7 φ__law_rows c__law_rows := by
  rintro M ss post ⟨m, r, ns, k, rfl, hd, hk, hl, hp⟩
  show c__law_rows _ M [.m m, .n, .n, .n, .n, .n, .n]
  unfold c__law_rows
  walk_at "dl"
  refine ⟨[_], rfl, sz (by simp), [_, _], rfl, sz (by simp), [_, _, _], rfl, sz (by simp), [_, _, _, _, _], rfl, sz (by simp), [_, _, _, _], rfl, sz (by simp), m, r, ns, k, 4, rfl, hd, by omega, by omega, by omega, hl, fun M1 v hd1 _ v1 v2 => ?_⟩
  obtain ⟨S, eS, hS, hS0, hS4⟩ : ∃ S : List Str, atI [PyData.list [.str "a"], .list [.str "a", .str "A"], .list [.str "a", .str "b", .str "B"], .list [.str "", .str "a", .str "b c", .str "B c", .str "A"]] v = some (.list (tx S)) ∧ (∀ t ∈ S, SeqAt.shaped (.str t) = true) ∧ 0 < S.length ∧ S.length ≤ 5 := by
    have hv : v = 0 ∨ v = 1 ∨ v = 2 ∨ v = 3 := by omega
    rcases hv with rfl | rfl | rfl | rfl
    · exact ⟨["a"], rfl, List.all_eq_true.mp (by decide +kernel), by simp, by simp⟩
    · exact ⟨["a", "A"], rfl, List.all_eq_true.mp (by decide +kernel), by simp, by simp⟩
    · exact ⟨["a", "b", "B"], rfl, List.all_eq_true.mp (by decide +kernel), by simp, by simp⟩
    · exact ⟨["", "a", "b c", "B c", "A"], rfl, List.all_eq_true.mp (by decide +kernel), by simp, by simp⟩
  refine ⟨_, eS, ?_⟩
  walk_at "dl"
  refine rows_lc hd1 (by omega) hl hS hS0 hS4 fun M2 R k2 hR hR12 hd2 hk2 => ?_
  walk_at "dl"
  refine ⟨m, r, ns, k2, 3, rfl, hd2, by omega, by omega, by omega, hl, fun M3 v3 hd3 _ w1 w2 => ?_⟩
  refine ρEq_d ⟨shaped_int _, shaped_int _, _, rfl, ?_⟩
  rw [eqv_int]
  by_cases hz : v3 = 0
  · rw [decide_eq_true hz]
    refine iteT (rows_lc hd3 (by omega) hl hS hS0 hS4 fun M4 O k4 hO hO12 hd4 hk4 => ?_)
    exact ⟨[_, _], rfl, sz (by simp), hp M4 R O k4 hR hO hR12 hO12 hd4 (by omega)⟩
  · rw [decide_eq_false hz]
    refine iteF ?_
    refine ⟨_, tx R, rfl, .inl (.inl rfl), iteF ?_⟩
    unfold dFor
    walk_at "dl"
    refine ⟨m, r, ns, k2 + 1, 6, rfl, hd3, by omega, by omega, by omega, hl, fun M4 v4 hd4 _ x1 x2 => ⟨_, rfl, ⟨by omega, by omega⟩, fun i M' es' => ∃ k5 O s3 s5 s6, es' = [.m m, .d (.list (tx S)), .d (.list (tx R)), s3, .d (.list (tx O)), s5, s6] ∧ O.length ≤ 12 + i ∧ (∀ t ∈ O, SeqAt.shaped (.str t) = true) ∧ DSt M' m r ns k5 ∧ k5 ≤ k2 + 2 + 3 * i, ⟨k2 + 1 + 1, R, _, _, _, rfl, hR12, hR.ok, hd4, by omega⟩, fun _ _ _ _ _ => trivial, ?_, ?_⟩⟩
    · rintro i M5 es' hi ⟨k5, O, s3, s5, s6, rfl, hOl, hO, hd5, hk5⟩
      have hi : i < 6 := by have : i < (1 + v4).toNat := hi; omega
      unfold c__law_rows_b1
      walk_at "dl"
      refine ⟨m, r, ns, k5, ((tx O).length : Nat) + 1, rfl, hd5, by omega, by simp; omega, by omega, hl, fun M6 at6 hd6 _ a1 a2 => ?_⟩
      refine ⟨m, r, ns, k5 + 1, 3, rfl, hd6, by omega, by omega, by omega, hl, fun M7 way hd7 _ b1 b2 => ?_⟩
      walk_at "dl"
      obtain ⟨a, rfl⟩ : ∃ a : Nat, at6 = (a : Int) := ⟨at6.toNat, by omega⟩
      have ha : a ≤ O.length := by simp at a2; omega
      refine ⟨_, rfl, ρSl_l ?_⟩
      rw [cut_head]
      refine ⟨m, r, ns, k5 + 1 + 1, tx S, rfl, hd7, by simpa using hS0, by simp; omega, by omega, hl, fun M8 d hd8 _ hm => ?_⟩
      obtain ⟨t, ht, rfl⟩ := List.mem_map.mp hm
      refine ⟨[_], rfl, sz (by simp), ρMul_lst ⟨by split <;> decide, by split <;> decide, sz (by split <;> simp), ?_⟩⟩
      obtain ⟨Z, eZ, hZ1, hZ⟩ : ∃ Z : List Str, (List.replicate (Int.toNat (if decide (0 < way) = true then 1 else 0)) [PyData.str t]).flatten = tx Z ∧ Z.length ≤ 1 ∧ ∀ u ∈ Z, u = t := by
        split
        · exact ⟨[t], rfl, by simp, by simp⟩
        · exact ⟨[], rfl, by simp, by simp⟩
      rw [eZ]
      refine ρAdd_lst ⟨sz (by simp; omega), ?_⟩
      refine ρNe_d ⟨shaped_int _, shaped_int _, ?_⟩
      walk_at "dl"
      obtain ⟨c, ec, hc1⟩ : ∃ c : Nat, ((a : Int) + if (!PyData.eqv (.int way) (.int 1)) = true then 1 else 0) = (c : Int) ∧ a ≤ c := by
        split
        · exact ⟨a + 1, by simp, by omega⟩
        · exact ⟨a, by simp, by omega⟩
      rw [ec]
      refine ⟨_, rfl, ρSl_l ?_⟩
      rw [cut_tail]
      refine ρAdd_lst ⟨sz (by simp; omega), ?_⟩
      have eL : (tx O).take a ++ tx Z ++ (tx O).drop c = tx (O.take a ++ Z ++ O.drop c) := by simp [tx]
      rw [eL]
      refine ⟨k5 + 1 + 1 + 1, _, _, _, _, rfl, by simp; omega, fun u hu => ?_, hd8, by omega⟩
      rcases List.mem_append.mp hu with hu | hu
      · rcases List.mem_append.mp hu with hu | hu
        · exact hO u (List.mem_of_mem_take hu)
        · rw [hZ u hu]; exact hS t ht
      · exact hO u (List.mem_of_mem_drop hu)
    · rintro M5 es' ⟨k5, O, s3, s5, s6, rfl, hOl, hO, hd5, hk5⟩
      walk_at "dl"
      refine ⟨_, rfl, ρSl_l ?_⟩
      have e12 : DL.cutD (tx O) none (some 12) = tx (O.take 12) := by
        have := cut_head (xs := tx O) (a := 12)
        rw [show ((12 : Nat) : Int) = 12 from rfl] at this
        rw [this]; simp [tx]
      rw [e12]
      refine ⟨[_, _], rfl, sz (by simp), hp M5 R _ k5 hR ⟨by simp; omega, fun t ht => hO t (List.mem_of_mem_take ht)⟩ hR12 (by simp; omega) hd5 ?_⟩
      have hw : (1 + v4).toNat ≤ 6 := by omega
      have hk5 : k5 ≤ k2 + 2 + 3 * (1 + v4).toNat := hk5
      omega
end Lst
set_option Elab.async false
set_option linter.all false
set_option autoImplicit false
set_option maxRecDepth 100000
set_option maxHeartbeats 4000000
namespace Lst
open PySem PySem.Spec PyProof.Rows L2 DL
local macro_rules | `(tactic| walk_at "dl") => `(tactic| try dsimp only [dSeq, dSet, dLstM, dOp, dV, dVs_d, dVs_m, dVs_s, dC, dCB, dCons, dNil, dLst, dTup, dUn, dB, dTru, dAnd, dOr, dNot, dAndV, dOrV, dNotV, dIfE, dIf, dRet, dExpr, dBM, dVF, dIn, dEnum, dZip, dRng1, dRng2, dPar, dAsg, dCall, dNext, dBreak, dYes, dSl, dPart, dNoP, dRev, dSub, dIsi, Tg.set, setAll_c, setAll_0, wipeS, wkD, wkR, ρAdd_int, ρAdd_str, ρAdd_tup, ρSub_int, ρMul_int, ρMod_int, ρDiv_int, ρPow_int, ρLt_int, ρLe_int, ρGt_int, ρGe_int, ρNeg_int, ρIx_lst, ρIx_tup, ρIx_str, ρIx_scr, ρLen_lst, ρLen_tup, ρLen_str, ρLen_scr, ρMax_2, ρMin_2, ρInt_int, ρInt_bool, ρApp_m, ρTru_b, ρTru_n, ρTru_i, ρTru_l, ρTru_t, ρWk_l, ρWk_t, ρWk_s, ρWk_m, ρWk_tt, ρIx_t, ρLen_t, ρTru_tt, dVs_t, dTupT, dEnumS, dZipS, ρSl_t, ρSl_s, ρSl_c, List.cons_append, List.nil_append, List.length_cons, List.length_nil, List.getElem?_cons_succ, List.getElem?_cons_zero, List.set_cons_succ, List.set_cons_zero, List.map])
section
variable {R O : List Str}
theorem lt_like {a b i j : Nat} (ha : a < i) (hb : b < j) (h : R[a]? = O[b]?) : lt R O a b + 1 ≤ lt R O i j := by
  obtain ⟨ps, u, hl⟩ := up_ex (R := R) (O := O) a b
  have := up_le i j (Up.snoc u ha hb h)
  simp at this; omega
theorem lt_pick {i j : Nat} (h : 0 < lt R O i j) : ∃ a b, a < i ∧ b < j ∧ R[a]? = O[b]? ∧ lt R O a b + 1 = lt R O i j := by
  obtain ⟨ps, u, hl⟩ := up_ex (R := R) (O := O) i j
  cases u with
  | nil => simp at hl; omega
  | @snoc _ _ a b qs u h1 h2 h3 =>
    have g1 := up_le a b u
    have g2 := lt_like h1 h2 h3
    simp at hl
    exact ⟨a, b, h1, h2, h3, by omega⟩
theorem max_lt {i j : Nat} {L : List (Nat × Nat)} (hL : ∀ p ∈ L, p.1 < i ∧ p.2 < j ∧ R[p.1]? = O[p.2]?) (hA : ∀ a b, a < i → b < j → R[a]? = O[b]? → (a, b) ∈ L) {m : Int}
    (h1 : m ∈ (0 : Int) :: L.map fun p => ((lt R O p.1 p.2 : Nat) : Int) + 1) (h2 : ∀ y, y ∈ (0 : Int) :: L.map (fun p => ((lt R O p.1 p.2 : Nat) : Int) + 1) → y ≤ m) : m = (lt R O i j : Nat) := by
  have up : m ≤ (lt R O i j : Nat) := by
    rcases List.mem_cons.mp h1 with rfl | h1
    · omega
    · obtain ⟨p, hp, rfl⟩ := List.mem_map.mp h1
      obtain ⟨g1, g2, g3⟩ := hL p hp
      have := lt_like g1 g2 g3
      omega
  have low : ((lt R O i j : Nat) : Int) ≤ m := by
    by_cases hz : lt R O i j = 0
    · have := h2 0 (List.mem_cons_self ..); omega
    · obtain ⟨a, b, g1, g2, g3, g4⟩ := lt_pick (R := R) (O := O) (i := i) (j := j) (by omega)
      have := h2 (((lt R O a b : Nat) : Int) + 1) (List.mem_cons_of_mem _ (List.mem_map.mpr ⟨(a, b), hA a b g1 g2 g3, rfl⟩))
      omega
  omega
theorem mem_likes {n m : Nat} {p : Nat × Nat} : p ∈ likes R O n m ↔ p.1 < n ∧ p.2 < m ∧ R[p.1]? = O[p.2]? := by
  unfold likes
  rw [List.mem_flatMap]
  constructor
  · rintro ⟨a, ha, hp⟩
    obtain ⟨b, hb, rfl⟩ := List.mem_map.mp hp
    obtain ⟨h1, h2⟩ := List.mem_filter.mp hb
    exact ⟨List.mem_range.mp ha, List.mem_range.mp h1, of_decide_eq_true h2⟩
  · rintro ⟨h1, h2, h3⟩
    exact ⟨p.1, List.mem_range.mpr h1, List.mem_map.mpr ⟨p.2, List.mem_filter.mpr ⟨List.mem_range.mpr h2, decide_eq_true h3⟩, rfl⟩⟩
def likesTo (R O : List Str) (i m j : Nat) : List (Nat × Nat) := likes R O i m ++ ((List.range j).filter fun b => decide (R[i]? = O[b]?)).map fun b => (i, b)
theorem likesTo_0 (i m : Nat) : likesTo R O i m 0 = likes R O i m := by simp [likesTo]
theorem likesTo_full (i m : Nat) : likesTo R O i m m = likes R O (i + 1) m := by
  unfold likesTo likes
  rw [List.range_succ, List.flatMap_append]; simp
theorem likesTo_s (i m j : Nat) : likesTo R O i m (j + 1) = likesTo R O i m j ++ if R[i]? = O[j]? then [(i, j)] else [] := by
  unfold likesTo
  rw [List.range_succ, List.filter_append, List.map_append, List.append_assoc]
  congr 1
  by_cases h : R[i]? = O[j]?
  · rw [if_pos h, List.filter_cons_of_pos (by simpa using h)]; rfl
  · rw [if_neg h, List.filter_cons_of_neg (by simpa using h)]; rfl
theorem mem_likesTo {i m j : Nat} {p : Nat × Nat} : p ∈ likesTo R O i m j ↔ (p.1 < i ∧ p.2 < m ∧ R[p.1]? = O[p.2]?) ∨ (p.1 = i ∧ p.2 < j ∧ R[i]? = O[p.2]?) := by
  unfold likesTo
  rw [List.mem_append, mem_likes]
  refine or_congr Iff.rfl ?_
  constructor
  · intro h
    obtain ⟨b, hb, rfl⟩ := List.mem_map.mp h
    obtain ⟨h1, h2⟩ := List.mem_filter.mp hb
    exact ⟨rfl, List.mem_range.mp h1, of_decide_eq_true h2⟩
  · rintro ⟨h1, h2, h3⟩
    obtain ⟨a, b⟩ := p
    have h1 : a = i := h1
    subst h1
    exact List.mem_map.mpr ⟨b, List.mem_filter.mpr ⟨List.mem_range.mpr h2, decide_eq_true h3⟩, rfl⟩
theorem likes_len (n m : Nat) : (likes R O n m).length ≤ n * m := by
  induction n with
  | zero => simp [likes]
  | succ n ih =>
    rw [← likesTo_full]
    unfold likesTo
    rw [List.length_append, List.length_map, Nat.add_mul, Nat.one_mul]
    have := List.length_filter_le (fun b => decide (R[n]? = O[b]?)) (List.range m)
    simp at this
    omega
theorem likesTo_len (i m j : Nat) : (likesTo R O i m j).length ≤ i * m + j := by
  unfold likesTo
  rw [List.length_append, List.length_map]
  have h1 := likes_len (R := R) (O := O) i m
  have := List.length_filter_le (fun b => decide (R[i]? = O[b]?)) (List.range j)
  simp at this
  omega
end
def keyP (p : Nat × Nat) : List Key := [.inl p.1, .inl p.2]
theorem keyP_inj {p q : Nat × Nat} (h : keyP p = keyP q) : p = q := by
  obtain ⟨a, b⟩ := p
  obtain ⟨c, d⟩ := q
  simp [keyP] at h
  obtain ⟨h1, h2⟩ := h
  have : a = c := by omega
  have : b = d := by omega
  simp [*]
theorem keysOf_p (p : Nat × Nat) : keysOf [.int p.1, .int p.2] = some (keyP p) := rfl
theorem gVal_ent {R O : List Str} {L : List (Nat × Nat)} {p : Nat × Nat} (h : p ∈ L) : gVal (L.map (entS R O)) (keyP p) = some (.d (.int ((lt R O p.1 p.2 : Nat) + 1))) := by
  induction L with
  | nil => cases h
  | cons q L ih =>
    unfold gVal
    rw [List.map_cons, List.find?_cons]
    by_cases e : q = p
    · subst e
      have : decide ((entS R O q).1 = keyP q) = true := decide_eq_true rfl
      rw [this]; rfl
    · have : decide ((entS R O q).1 = keyP p) = false := decide_eq_false fun z => e (keyP_inj z)
      rw [this]
      rcases List.mem_cons.mp h with rfl | h
      · exact absurd rfl e
      · exact ih h
theorem gVal_none {R O : List Str} {L : List (Nat × Nat)} {p : Nat × Nat} (h : p ∉ L) : gVal (L.map (entS R O)) (keyP p) = none := by
  unfold gVal
  rw [Option.map_eq_none_iff, List.find?_eq_none]
  intro x hx
  obtain ⟨q, hq, rfl⟩ := List.mem_map.mp hx
  have : decide ((entS R O q).1 = keyP p) = false := decide_eq_false fun z => h (keyP_inj z ▸ hq)
  rw [this]; exact Bool.false_ne_true
theorem gPut_ent {R O : List Str} {L : List (Nat × Nat)} {p : Nat × Nat} (h : p ∉ L) : gPut (L.map (entS R O)) (keyP p) (.d (.int ((lt R O p.1 p.2 : Nat) + 1))) = (L ++ [p]).map (entS R O) := by
  unfold gPut
  have : ((L.map (entS R O)).any fun kv => decide (kv.1 = keyP p)) = false := by
    rw [List.any_eq_false]
    intro x hx
    obtain ⟨q, hq, rfl⟩ := List.mem_map.mp hx
    have : decide ((entS R O q).1 = keyP p) = false := decide_eq_false fun z => h (keyP_inj z ▸ hq)
    rw [this]; exact Bool.false_ne_true
  rw [this, if_neg Bool.false_ne_true, List.map_append]
  rfl
theorem range_fm {α β : Type} (xs : List α) (d : α) (F : α → Option β) : (List.range xs.length).filterMap (fun i => F (xs.getD i d)) = xs.filterMap F := by
  have e : xs = (List.range xs.length).map fun i => xs.getD i d := by
    apply List.ext_getElem?
    intro i
    by_cases h : i < xs.length
    · simp [List.getElem?_range h, List.getD_eq_getElem?_getD, h]
    · rw [List.getElem?_eq_none (by omega), List.getElem?_eq_none (by simp; omega)]
  conv => rhs; rw [e, List.filterMap_map]
  rfl
theorem keyD_ent {R O : List Str} {L : List (Nat × Nat)} {i : Nat} (h : i < L.length) : ((L.map (entS R O)).map fun kv => PyData.tuple (kv.1.map keyD)).getD i .none = prN (L.getD i (0, 0)) := by
  simp [List.getD_eq_getElem?_getD, h, entS, prN, keyD]
theorem getD_mem {α : Type} {L : List α} {i : Nat} {d : α} (h : i < L.length) : L.getD i d ∈ L := by
  simp [List.getD_eq_getElem?_getD, h]
end Lst
set_option Elab.async false
set_option linter.all false
set_option autoImplicit false
set_option maxRecDepth 100000
set_option maxHeartbeats 4000000
namespace Lst
open PySem PySem.Spec PyProof.Rows L2 DL
local macro_rules | `(tactic| walk_at "dl") => `(tactic| try dsimp only [dSeq, dSet, dLstM, dOp, dV, dVs_d, dVs_m, dVs_s, dC, dCB, dCons, dNil, dLst, dTup, dUn, dB, dTru, dAnd, dOr, dNot, dAndV, dOrV, dNotV, dIfE, dIf, dRet, dExpr, dBM, dVF, dIn, dEnum, dZip, dRng1, dRng2, dPar, dAsg, dCall, dNext, dBreak, dYes, dSl, dPart, dNoP, dRev, dSub, dIsi, Tg.set, setAll_c, setAll_0, wipeS, wkD, wkR, ρAdd_int, ρAdd_str, ρAdd_tup, ρSub_int, ρMul_int, ρMod_int, ρDiv_int, ρPow_int, ρLt_int, ρLe_int, ρGt_int, ρGe_int, ρNeg_int, ρIx_lst, ρIx_tup, ρIx_str, ρIx_scr, ρLen_lst, ρLen_tup, ρLen_str, ρLen_scr, ρMax_2, ρMin_2, ρInt_int, ρInt_bool, ρApp_m, ρTru_b, ρTru_n, ρTru_i, ρTru_l, ρTru_t, ρWk_l, ρWk_t, ρWk_s, ρWk_m, ρWk_tt, ρIx_t, ρLen_t, ρTru_tt, dVs_t, dTupT, dEnumS, dZipS, ρSl_t, ρSl_s, ρSl_c, List.cons_append, List.nil_append, List.length_cons, List.length_nil, List.getElem?_cons_succ, List.getElem?_cons_zero, List.set_cons_succ, List.set_cons_zero, List.map])
theorem fm_if {α β : Type} (L : List α) (c : α → Bool) (g : α → β) : L.filterMap (fun p => if c p = true then some (g p) else none) = (L.filter c).map g := by
  induction L with
  | nil => rfl
  | cons a L ih =>
    by_cases h : c a = true
    · rw [List.filterMap_cons_some (by rw [if_pos h]), List.filter_cons_of_pos h, ih]; rfl
    · rw [List.filterMap_cons_none (by rw [if_neg h]), List.filter_cons_of_neg h, ih]
theorem does__law_ends : Does 7 φ__law_ends c__law_ends := by
  rintro M ss post ⟨R, O, rfl, hR, hO, rl, ol, hp⟩
  show c__law_ends _ M [.d (.list (tx R)), .d (.list (tx O)), .n, .n, .n, .n, .n]
  unfold c__law_ends
  have l0 : (tx R).length = R.length := by simp
  have l1 : (tx O).length = O.length := by simp
  walk_at "dl"
  intro p hp0
  unfold dFor
  walk_at "dl"
  refine ⟨_, rfl, ⟨by omega, by omega⟩, fun i M' es' => M' = mput M p (.dT ((likes R O i O.length).map (entS R O))) ∧ ∃ s3 s4 s5 s6, es' = [.d (.list (tx R)), .d (.list (tx O)), .m p, s3, s4, s5, s6], ⟨rfl, _, _, _, _, rfl⟩, fun _ _ _ _ _ => trivial, ?_, ?_⟩
  · rintro i M' es' hi ⟨rfl, s3, s4, s5, s6, rfl⟩
    have hi : i < R.length := by rw [l0] at hi; omega
    unfold c__law_ends_b2 dFor
    walk_at "dl"
    have e0 : ((0 : Int) + (i : Nat)) = (i : Int) := by omega
    rw [e0]
    refine ⟨_, rfl, ⟨by omega, by omega⟩, fun j M' es' => M' = mput M p (.dT ((likesTo R O i O.length j).map (entS R O))) ∧ ∃ s4 s5 s6, es' = [.d (.list (tx R)), .d (.list (tx O)), .m p, .d (.int i), s4, s5, s6], ⟨by rw [likesTo_0], _, _, _, rfl⟩, fun _ _ _ _ _ => trivial, ?_, ?_⟩
    · rintro j M' es' hj ⟨rfl, s4, s5, s6, rfl⟩
      have hj : j < O.length := by rw [l1] at hj; omega
      unfold c__law_ends_b1
      walk_at "dl"
      have e0 : ((0 : Int) + (j : Nat)) = (j : Int) := by omega
      rw [e0, likesTo_s]
      refine ⟨_, atI_at (i := i) (x := .str R[i]) (by simp [hi]), ?_⟩
      refine ⟨_, atI_at (i := j) (x := .str O[j]) (by simp [hj]), ?_⟩
      refine ρEq_d ⟨hR.ok _ (List.getElem_mem _), hO.ok _ (List.getElem_mem _), _, rfl, ?_⟩
      rw [eqv_str, List.getElem?_eq_getElem hi, List.getElem?_eq_getElem hj]
      by_cases h1 : R[i] = O[j]
      · rw [decide_eq_true h1, if_pos (congrArg some h1)]
        refine iteT ?_
        have hlk : R[i]? = O[j]? := by rw [List.getElem?_eq_getElem hi, List.getElem?_eq_getElem hj, h1]
        have hll := likesTo_len (R := R) (O := O) i O.length j
        have hmem : ∀ q, q ∈ likesTo R O i O.length j ↔ _ := fun q => mem_likesTo
        have hni : (i, j) ∉ likesTo R O i O.length j := fun h => by
          rcases (hmem _).mp h with h | h
          · exact absurd h.1 (Nat.lt_irrefl _)
          · exact absurd h.2.1 (Nat.lt_irrefl _)
        have hb : i * O.length ≤ 20 * 20 := Nat.mul_le_mul (by omega) ol
        generalize likesTo R O i O.length j = L at *
        refine ⟨p, .inr ⟨_, mput_same, fun od kws => ?_⟩⟩
        rw [mput_mput]
        refine lc_pure ⟨(L.map (entS R O)).length, fun q => .d (((L.map (entS R O)).map fun kv => PyData.tuple (kv.1.map keyD)).getD q .none), fun M' => M' p = some (.lT od kws (L.map (entS R O)))⟩ (fun q => if (decide ((L.getD q (0, 0)).1 < i) && decide ((L.getD q (0, 0)).2 < j)) = true then some (.int ((lt R O (L.getD q (0, 0)).1 (L.getD q (0, 0)).2 : Nat) + 1)) else none) (fun C hC => ?_) (by show (L.map (entS R O)).length ≤ _; rw [List.length_map]; omega) (fun Dn acc hD => ?_) (fun q hq Dn acc hD A B hA hB => ?_) ?_
        · walk_at "dl"
          exact ⟨p, rfl, .inr ⟨od, kws, _, mput_same, hC⟩⟩
        · have : p ≠ Dn := fun e => by subst e; rw [mput_same] at hD; cases hD
          show mput _ Dn _ p = _
          rw [mput_ne this, mput_same]
        · have hq : q < L.length := by have : q < (L.map (entS R O)).length := hq; rwa [List.length_map] at this
          have npD : p ≠ Dn := fun e => by subst e; rw [mput_same] at hD; cases hD
          walk_at "dl"
          rw [keyD_ent hq]
          have hmq : L.getD q (0, 0) ∈ L := getD_mem hq
          generalize L.getD q (0, 0) = pr at *
          unfold prN
          walk_at "dl"
          refine ⟨_, atI_at (i := 0) rfl, ?_⟩
          walk_at "dl"
          refine ⟨_, rfl, ?_⟩
          have get : ∀ post : DP, post (mput (mput M p (.lT od kws (L.map (entS R O)))) Dn (.lst acc)) (.d (.int ((lt R O pr.1 pr.2 : Nat) + 1))) → ρDk (.m p) (.d (.tuple [.int pr.1, .int pr.2])) (mput (mput M p (.lT od kws (L.map (entS R O)))) Dn (.lst acc)) post := fun post hpost => by
            refine ⟨p, _, _, rfl, rfl, ?_, hpost⟩
            unfold GetS
            rw [mput_ne npD, mput_same]
            exact ⟨keyP pr, keysOf_p pr, (gVal_ent hmq).symm⟩
          by_cases g1 : pr.1 < i
          · rw [decide_eq_true (show (pr.1 : Int) < i by omega)]
            refine iteT ⟨_, atI_at (i := 1) rfl, ?_⟩
            walk_at "dl"
            refine ⟨_, rfl, ?_⟩
            by_cases g2 : pr.2 < j
            · rw [decide_eq_true (show (pr.2 : Int) < j by omega)]
              refine iteT (get _ (hA _ ?_))
              rw [decide_eq_true g1, decide_eq_true g2]; rfl
            · rw [decide_eq_false (show ¬ (pr.2 : Int) < j by omega)]
              refine iteF (hB ?_)
              rw [decide_eq_false g2, Bool.and_false]; rfl
          · rw [decide_eq_false (show ¬ (pr.1 : Int) < i by omega)]
            refine iteF (iteF (hB ?_))
            rw [decide_eq_false g1, Bool.false_and]; rfl
        · have efm : (List.range (L.map (entS R O)).length).filterMap (fun q => if (decide ((L.getD q (0, 0)).1 < i) && decide ((L.getD q (0, 0)).2 < j)) = true then some (PyData.int ((lt R O (L.getD q (0, 0)).1 (L.getD q (0, 0)).2 : Nat) + 1)) else none) = (L.filter fun pr => decide (pr.1 < i) && decide (pr.2 < j)).map fun pr => PyData.int ((lt R O pr.1 pr.2 : Nat) + 1) := by
            rw [List.length_map, range_fm L (0, 0) (fun pr => if (decide (pr.1 < i) && decide (pr.2 < j)) = true then some (PyData.int ((lt R O pr.1 pr.2 : Nat) + 1)) else none), fm_if]
          rw [efm]
          refine ⟨mput_same, ?_⟩
          rw [mput_mput]
          walk_at "dl"
          have hfl : ((L.filter fun pr => decide (pr.1 < i) && decide (pr.2 < j)).map fun pr => PyData.int ((lt R O pr.1 pr.2 : Nat) + 1)).length ≤ 1000 := by
            rw [List.length_map]
            have := List.length_filter_le (fun pr : Nat × Nat => decide (pr.1 < i) && decide (pr.2 < j)) L
            omega
          refine ⟨[.int 0], rfl, sz (by simp), ρAdd_lst ⟨sz (by rw [List.length_singleton]; omega), ?_⟩⟩
          refine ⟨(0 : Int) :: (L.filter fun pr => decide (pr.1 < i) && decide (pr.2 < j)).map fun pr => ((lt R O pr.1 pr.2 : Nat) : Int) + 1, ?_, by simp, fun mx m1 m2 => ?_⟩
          · show PyData.int 0 :: _ = _
            rw [List.map_cons, List.map_map]; rfl
          have emx := max_lt (R := R) (O := O) (i := i) (j := j) (fun q hq => ?_) (fun a b ha hb hab => ?_) m1 m2
          · subst emx
            walk_at "dl"
            refine ⟨[.int i, .int j], rfl, sz (by simp), .inr ?_⟩
            unfold PutS
            rw [mput_same]
            refine ⟨keyP (i, j), keysOf_p (i, j), szl (by rw [List.length_map]; omega), ?_, _, _, _, rfl⟩
            rw [mput_mput, ← gPut_ent hni, Int.add_comm]
          · obtain ⟨q1, q2⟩ := List.mem_filter.mp hq
            rw [Bool.and_eq_true] at q2
            refine ⟨of_decide_eq_true q2.1, of_decide_eq_true q2.2, ?_⟩
            rcases (hmem q).mp q1 with h | h
            · exact h.2.2
            · rw [h.1]; exact h.2.2
          · refine List.mem_filter.mpr ⟨(hmem (a, b)).mpr (.inl ⟨ha, by omega, hab⟩), ?_⟩
            rw [decide_eq_true ha, decide_eq_true hb]; rfl
      · rw [decide_eq_false h1, if_neg (fun e => h1 (Option.some.inj e)), List.append_nil]
        exact iteF ⟨rfl, _, _, _, rfl⟩
    · rintro M' es' ⟨rfl, s4, s5, s6, rfl⟩
      refine ⟨?_, _, _, _, _, rfl⟩
      have e9 : ((tx O).length : Int).toNat = O.length := by rw [l1]; omega
      show mput M p (.dT ((likesTo R O i O.length ((tx O).length : Int).toNat).map _)) = _
      rw [e9, likesTo_full]
  · rintro M' es' ⟨rfl, s3, s4, s5, s6, rfl⟩
    walk_at "dl"
    have e9 : ((tx R).length : Int).toNat = R.length := by rw [l0]; omega
    rw [e9]; exact hp p hp0
end Lst
set_option Elab.async false
set_option linter.all false
set_option autoImplicit false
set_option maxRecDepth 100000
set_option maxHeartbeats 4000000
namespace Lst
open PySem PySem.Spec PyProof.Rows L2 DL
local macro_rules | `(tactic| walk_at "dl") => `(tactic| try dsimp only [dSeq, dSet, dLstM, dOp, dV, dVs_d, dVs_m, dVs_s, dC, dCB, dCons, dNil, dLst, dTup, dUn, dB, dTru, dAnd, dOr, dNot, dAndV, dOrV, dNotV, dIfE, dIf, dRet, dExpr, dBM, dVF, dIn, dEnum, dZip, dRng1, dRng2, dPar, dAsg, dCall, dNext, dBreak, dYes, dSl, dPart, dNoP, dRev, dSub, dIsi, Tg.set, setAll_c, setAll_0, wipeS, wkD, wkR, ρAdd_int, ρAdd_str, ρAdd_tup, ρSub_int, ρMul_int, ρMod_int, ρDiv_int, ρPow_int, ρLt_int, ρLe_int, ρGt_int, ρGe_int, ρNeg_int, ρIx_lst, ρIx_tup, ρIx_str, ρIx_scr, ρLen_lst, ρLen_tup, ρLen_str, ρLen_scr, ρMax_2, ρMin_2, ρInt_int, ρInt_bool, ρApp_m, ρTru_b, ρTru_n, ρTru_i, ρTru_l, ρTru_t, ρWk_l, ρWk_t, ρWk_s, ρWk_m, ρWk_tt, ρIx_t, ρLen_t, ρTru_tt, dVs_t, dTupT, dEnumS, dZipS, ρSl_t, ρSl_s, ρSl_c, List.cons_append, List.nil_append, List.length_cons, List.length_nil, List.getElem?_cons_succ, List.getElem?_cons_zero, List.set_cons_succ, List.set_cons_zero, List.map])
section
variable {R O : List Str}
theorem up_dn2 {a b : Nat} {qs : List (Nat × Nat)} (u : Up R O a b qs) : a ≤ R.length → b ≤ O.length → ∀ r, Dn R O a b r → Dn R O 0 0 (qs ++ r) := by
  induction u with
  | nil => exact fun _ _ r d => d.mono (Nat.zero_le _) (Nat.zero_le _)
  | @snoc i j c d qs u h1 h2 h3 ih =>
    intro ha hb r dr
    rw [List.append_assoc]
    exact ih (by omega) (by omega) _ (.cons (Nat.le_refl _) (Nat.le_refl _) (by omega) (by omega) h3 (dr.mono (by omega) (by omega)))
theorem dn_up2 {i j : Nat} {r : List (Nat × Nat)} (d : Dn R O i j r) : i ≤ R.length → j ≤ O.length → ∀ qs, Up R O i j qs → Up R O R.length O.length (qs ++ r) := by
  induction d with
  | nil => intro h1 h2 qs u; rw [List.append_nil]; exact u.mono h1 h2
  | @cons i j a b ps h1 h2 h3 h4 h5 h6 ih =>
    intro _ _ qs u
    have := ih (by omega) (by omega) (qs ++ [(a, b)]) (.snoc (u.mono h1 h2) (Nat.lt_succ_self _) (Nat.lt_succ_self _) h5)
    rw [List.append_assoc] at this
    exact this
theorem lt_total : lt R O R.length O.length = (kp R O).length := by
  rw [kp_len]
  apply Nat.le_antisymm
  · obtain ⟨ps, u, hl⟩ := up_ex (R := R) (O := O) R.length O.length
    have := up_dn2 u (Nat.le_refl _) (Nat.le_refl _) [] .nil
    rw [List.append_nil] at this
    rw [← hl]; exact dn_le this
  · obtain ⟨ps, d, hl⟩ := dn_ex (R := R) (O := O) (i := 0) (j := 0) (Nat.zero_le _) (Nat.zero_le _)
    have := dn_up2 d (Nat.zero_le _) (Nat.zero_le _) [] .nil
    rw [← hl]; exact up_le _ _ this
theorem dn_split_up {a b : Nat} {suf : List (Nat × Nat)} : ∀ {pre : List (Nat × Nat)} {i j : Nat} {us : List (Nat × Nat)}, Dn R O i j (pre ++ (a, b) :: suf) → Up R O i j us → Up R O a b (us ++ pre) ∧ Dn R O (a + 1) (b + 1) suf ∧ a < R.length ∧ b < O.length ∧ R[a]? = O[b]?
  | [], i, j, us, d, u => by
    cases d with
    | cons h1 h2 h3 h4 h5 h6 => rw [List.append_nil]; exact ⟨u.mono h1 h2, h6, h3, h4, h5⟩
  | (c, e) :: pre, i, j, us, d, u => by
    cases d with
    | cons h1 h2 h3 h4 h5 h6 =>
      have := dn_split_up h6 (.snoc (u.mono h1 h2) (Nat.lt_succ_self _) (Nat.lt_succ_self _) h5)
      rw [List.append_assoc] at this
      exact this
theorem kp_at {k : Nat} {p : Nat × Nat} (h : (kp R O)[k]? = some p) : lt R O p.1 p.2 = k ∧ p ∈ likes R O R.length O.length := by
  obtain ⟨a, b⟩ := p
  obtain ⟨hk, e⟩ := List.getElem?_eq_some_iff.mp h
  have es : kp R O = (kp R O).take k ++ (a, b) :: (kp R O).drop (k + 1) := by
    rw [← e, ← List.drop_eq_getElem_cons hk, List.take_append_drop]
  have d := kp_dn (R := R) (O := O)
  rw [es] at d
  obtain ⟨u, ds, ha, hb, hl⟩ := dn_split_up d (us := []) .nil
  have g1 := up_le _ _ u
  have l1 : ([] ++ (kp R O).take k).length = k := by simp; omega
  rw [l1] at g1
  obtain ⟨qs, uq, hq⟩ := up_ex (R := R) (O := O) a b
  have d2 := up_dn2 uq (by omega) (by omega) _ (.cons (Nat.le_refl _) (Nat.le_refl _) ha hb hl ds)
  have g2 := dn_le d2
  rw [← kp_len] at g2
  rw [List.length_append, List.length_cons, List.length_drop, hq] at g2
  exact ⟨by show lt R O a b = k; omega, mem_likes.mpr ⟨ha, hb, hl⟩⟩
theorem dn_ge {a b : Nat} {r : List (Nat × Nat)} (h : Dn R O a b r) : ∀ p ∈ r, a ≤ p.1 ∧ b ≤ p.2 := by
  induction h with
  | nil => intro p hp; cases hp
  | cons h1 h2 h3 h4 h5 h6 ih =>
    intro p hp
    rcases List.mem_cons.mp hp with rfl | hp
    · exact ⟨h1, h2⟩
    · obtain ⟨g1, g2⟩ := ih p hp
      exact ⟨by omega, by omega⟩
theorem dn_pw {a b : Nat} {r : List (Nat × Nat)} (h : Dn R O a b r) : r.Pairwise fun p q => p.1 < q.1 ∧ p.2 < q.2 := by
  induction h with
  | nil => exact .nil
  | cons h1 h2 h3 h4 h5 h6 ih => exact .cons (fun q hq => by obtain ⟨g1, g2⟩ := dn_ge h6 q hq; exact ⟨by omega, by omega⟩) ih
theorem lvl_eq (k n m : Nat) : lvl R O k n m = (likes R O n m).filter fun p => decide (lt R O p.1 p.2 = k) := by
  unfold lvl likes
  rw [List.filter_flatMap]
  congr 1
  funext a
  rw [List.filter_map, List.filter_filter]
  congr 1
  congr 1
  funext b
  exact Bool.and_comm _ _
def lexLe (p q : Nat × Nat) : Prop := p.1 < q.1 ∨ (p.1 = q.1 ∧ p.2 ≤ q.2)
theorem likes_pw (n m : Nat) : (likes R O n m).Pairwise lexLe := by
  unfold likes
  rw [List.pairwise_flatMap]
  refine ⟨fun a _ => ?_, ?_⟩
  · rw [List.pairwise_map]
    refine (List.Pairwise.filter _ (List.pairwise_lt_range)).imp fun {x y} h => .inr ⟨rfl, Nat.le_of_lt h⟩
  · refine List.pairwise_lt_range.imp fun {a b} h x hx y hy => ?_
    obtain ⟨_, _, rfl⟩ := List.mem_map.mp hx
    obtain ⟨_, _, rfl⟩ := List.mem_map.mp hy
    exact .inl h
theorem lvl_pw (k n m : Nat) : (lvl R O k n m).Pairwise lexLe := by rw [lvl_eq]; exact (likes_pw n m).filter _
end
theorem dle_pr {p q : Nat × Nat} (h : lexLe p q) : dLe (prN p) (prN q) = true := by
  show PySem.W.dataLe false id (prN p) (prN q) = true
  rw [PySem.W.dataLe_eq]
  show (!PySem.W.dataLt (prN q) (prN p)) = true
  unfold prN
  rw [PySem.W.dataLt_ii, decide_eq_false]
  · rfl
  · rcases h with h | h <;> omega
theorem sort_prs {L : List (Nat × Nat)} (h : L.Pairwise lexLe) : (prs L).mergeSort dLe = prs L := by
  apply List.mergeSort_of_pairwise
  unfold prs
  rw [List.pairwise_map]
  exact h.imp fun h => dle_pr h
theorem alike_prs (L : List (Nat × Nat)) : PySem.W.AllAlike (prs L) := by
  intro x hx y hy
  obtain ⟨p, _, rfl⟩ := List.mem_map.mp hx
  obtain ⟨q, _, rfl⟩ := List.mem_map.mp hy
  simp [prN, PySem.W.alike, PySem.W.alikeAll]
theorem sortable_prs (L : List (Nat × Nat)) : PySem.W.Sortable (prs L) := .inl fun d hd => by
  obtain ⟨p, _, rfl⟩ := List.mem_map.mp hd
  exact ⟨_, _, rfl⟩
theorem depth_prs (L : List (Nat × Nat)) : PyData.depthAll (prs L) ≤ 60 := by
  induction L with
  | nil => exact Nat.zero_le _
  | cons p L ih =>
    show PyData.depthAll (prN p :: prs L) ≤ 60
    rw [PyData.depthAll]
    have := (sh_pr p).ok.2
    exact Nat.max_le.mpr ⟨by omega, ih⟩
theorem ρSort_prs {M : MHp} {s : Sl} {L : List (Nat × Nat)} {post : DP} (h : LstOf M s (prs L)) (hl : L.Pairwise lexLe) (hp : post M (.d (.list (prs L)))) : ρSort [s] M post :=
  ⟨s, prs L, rfl, h, alike_prs L, sortable_prs L, depth_prs L, by rw [sort_prs hl]; exact hp⟩
theorem mput_id {M : MHp} {a : Addr} {o : MO} (h : M a = some o) : mput M a o = M := by
  funext b; unfold mput
  by_cases e : b = a
  · subst e; rw [if_pos rfl, h]
  · rw [if_neg e]
theorem eqv_rfl {x : PyData} (h : SeqAt.shaped x = true) : PyData.eqv x x = true := by
  unfold SeqAt.shaped at h
  rw [Bool.and_eq_true] at h
  exact PySem.SeqAt.eqv_refl x h.1
theorem shaped_two {R O : List Str} (hR : TxOk R) (hO : TxOk O) : SeqAt.shaped (.list [.list (tx R), .list (tx O)]) = true := by
  have key : ∀ ts : List Str, (∀ t ∈ ts, SeqAt.shaped (.str t) = true) → PyData.canLayAll0 (tx ts) = true ∧ PyData.depthAll (tx ts) ≤ 0 := fun ts => by
    induction ts with
    | nil => exact fun _ => ⟨rfl, Nat.le_refl _⟩
    | cons t ts ih =>
      intro h
      obtain ⟨h1, h2⟩ := ih fun u hu => h u (List.mem_cons_of_mem _ hu)
      have h3 := h t (List.mem_cons_self ..)
      unfold SeqAt.shaped at h3
      rw [Bool.and_eq_true] at h3
      refine ⟨?_, ?_⟩
      · show PyData.canLayAll0 (PyData.str t :: tx ts) = true
        rw [PyData.canLayAll0, h3.1, h1]; rfl
      · show PyData.depthAll (PyData.str t :: tx ts) ≤ 0
        rw [PyData.depthAll, PyData.depth]; omega
  obtain ⟨a1, a2⟩ := key R hR.ok
  obtain ⟨b1, b2⟩ := key O hO.ok
  unfold SeqAt.shaped
  simp [PyData.canLay0, PyData.canLayAll0, PyData.depth, PyData.depthAll, a1, b1]
  omega
end Lst
set_option Elab.async false
set_option linter.all false
set_option autoImplicit false
set_option maxRecDepth 100000
set_option maxHeartbeats 4000000
namespace Lst
open PySem PySem.Spec PyProof.Rows L2 DL
local macro_rules | `(tactic| walk_at "dl") => `(tactic| try dsimp only [dSeq, dSet, dLstM, dOp, dV, dVs_d, dVs_m, dVs_s, dC, dCB, dCons, dNil, dLst, dTup, dUn, dB, dTru, dAnd, dOr, dNot, dAndV, dOrV, dNotV, dIfE, dIf, dRet, dExpr, dBM, dVF, dIn, dEnum, dZip, dRng1, dRng2, dPar, dAsg, dCall, dNext, dBreak, dYes, dSl, dPart, dNoP, dRev, dSub, dIsi, Tg.set, setAll_c, setAll_0, wipeS, wkD, wkR, ρAdd_int, ρAdd_str, ρAdd_tup, ρSub_int, ρMul_int, ρMod_int, ρDiv_int, ρPow_int, ρLt_int, ρLe_int, ρGt_int, ρGe_int, ρNeg_int, ρIx_lst, ρIx_tup, ρIx_str, ρIx_scr, ρLen_lst, ρLen_tup, ρLen_str, ρLen_scr, ρMax_2, ρMin_2, ρInt_int, ρInt_bool, ρApp_m, ρTru_b, ρTru_n, ρTru_i, ρTru_l, ρTru_t, ρWk_l, ρWk_t, ρWk_s, ρWk_m, ρWk_tt, ρIx_t, ρLen_t, ρTru_tt, dVs_t, dTupT, dEnumS, dZipS, ρSl_t, ρSl_s, ρSl_c, List.cons_append, List.nil_append, List.length_cons, List.length_nil, List.getElem?_cons_succ, List.getElem?_cons_zero, List.set_cons_succ, List.set_cons_zero, List.map])

theorem Ext.refl (M : MHp) : Ext M M := fun _ _ h => h
theorem Ext.trans {M M1 M2 : MHp} (h : Ext M M1) (h' : Ext M1 M2) : Ext M M2 := fun a o e => h' a o (h a o e)
theorem Ext.put {M : MHp} {p : Addr} {o : MO} (h : M p = none) : Ext M (mput M p o) := fun a u e => by rw [mput_ne (m_ne e h)]; exact e
theorem Ext.put' {M M' : MHp} {p : Addr} {o : MO} (e : Ext M M') (h : M p = none) : Ext M (mput M' p o) := fun a u q => by rw [mput_ne (m_ne q h)]; exact e a u q
theorem LvAt.ext {M M' : MHp} {b : Addr} {cs : List Addr} {f : Nat → List (Nat × Nat)} (h : LvAt M M' b cs f) : Ext M M' := fun a o e => by
  rw [h.old a (m_ne e h.nb) fun hc => by have := (h.nc a hc).1; rw [e] at this; cases this]; exact e
def dueD (R O : List Str) : PyData := .list ((List.range (lt R O R.length O.length)).map fun k => .list (prs (lvl R O k R.length O.length)))
def endsM (R O : List Str) : MO := .dT ((likes R O R.length O.length).map (entS R O))
theorem lvl_len (R O : List Str) (k : Nat) (hr : R.length ≤ 20) (ho : O.length ≤ 20) : (lvl R O k R.length O.length).length ≤ 400 := by
  rw [lvl_eq]
  have h1 := List.length_filter_le (fun p : Nat × Nat => decide (lt R O p.1 p.2 = k)) (likes R O R.length O.length)
  have h2 := likes_len (R := R) (O := O) R.length O.length
  have h3 : R.length * O.length ≤ 20 * 20 := Nat.mul_le_mul hr ho
  omega
theorem lt_le20 (R O : List Str) (hr : R.length ≤ 20) : lt R O R.length O.length ≤ 20 := by
  rw [lt_total]
  have := (kst_bounds (R := R) (O := O) (Nat.le_refl R.length)).2.2
  unfold kp; omega
/-- the like pairs of a level, out of the dict -/
theorem level_lc {R O : List Str} {M1 : MHp} {p : Addr} {k : Nat} {es : List Sl} {post : DP} {s0 s1 s3 s4 s5 s7 s8 s9 s10 s11 : Sl} (hr : R.length ≤ 20) (ho : O.length ≤ 20) (hM : M1 p = some (endsM R O)) (he : es = [s0, s1, .m p, s3, s4, s5, .d (.int (k : Nat)), s7, s8, s9, s10, s11]) (hp : post M1 (.d (.list (prs (lvl R O k R.length O.length))))) :
    (dLockE (dLc finD (dKeys (dV 2)) (.nm 5) (dB (dOp ρEq (dOp ρDk (dV 2) (dV 5)) (dOp ρAdd (dV 6) (dC (.int 1))))) (dV 5) [5])) M1 es post := by
  subst he
  have hll := likes_len (R := R) (O := O) R.length O.length
  have hb : R.length * O.length ≤ 20 * 20 := Nat.mul_le_mul hr ho
  rw [lvl_eq] at hp
  unfold endsM at hM
  generalize likes R O R.length O.length = L at *
  refine ⟨p, .inr ⟨_, hM, fun od kws => ?_⟩⟩
  refine lc_pure ⟨(L.map (entS R O)).length, fun q => .d (((L.map (entS R O)).map fun kv => PyData.tuple (kv.1.map keyD)).getD q .none), fun M' => M' p = some (.lT od kws (L.map (entS R O)))⟩ (fun q => if decide (lt R O (L.getD q (0, 0)).1 (L.getD q (0, 0)).2 = k) = true then some (prN (L.getD q (0, 0))) else none) (fun C hC => ?_) (by show (L.map (entS R O)).length ≤ _; rw [List.length_map]; omega) (fun Dn acc hD => ?_) (fun q hq Dn acc hD A B hA hB => ?_) ?_
  · unfold dKeys
    walk_at "dl"
    exact ⟨p, rfl, .inr ⟨od, kws, _, mput_same, hC⟩⟩
  · have : p ≠ Dn := fun e => by subst e; rw [mput_same] at hD; cases hD
    show mput _ Dn _ p = _
    rw [mput_ne this, mput_same]
  · have hq : q < L.length := by have : q < (L.map (entS R O)).length := hq; rwa [List.length_map] at this
    have npD : p ≠ Dn := fun e => by subst e; rw [mput_same] at hD; cases hD
    walk_at "dl"
    rw [keyD_ent hq]
    have hmq : L.getD q (0, 0) ∈ L := getD_mem hq
    generalize L.getD q (0, 0) = pr at *
    refine ⟨p, _, .d (.int ((lt R O pr.1 pr.2 : Nat) + 1)), rfl, rfl, ?g, ?_⟩
    case g =>
      unfold GetS
      rw [mput_ne npD, mput_same]
      exact ⟨keyP pr, keysOf_p pr, (gVal_ent hmq).symm⟩
    refine ρEq_d ⟨shaped_int _, shaped_int _, _, rfl, ?_⟩
    rw [eqv_int]
    by_cases g : lt R O pr.1 pr.2 = k
    · rw [decide_eq_true (show ((lt R O pr.1 pr.2 : Nat) : Int) + 1 = (k : Int) + 1 by omega)]
      refine iteT (hA _ ?_)
      rw [decide_eq_true g]; rfl
    · rw [decide_eq_false (show ¬ ((lt R O pr.1 pr.2 : Nat) : Int) + 1 = (k : Int) + 1 by omega)]
      refine iteF (hB ?_)
      rw [decide_eq_false g]; rfl
  · refine ⟨mput_same, ?_⟩
    rw [mput_mput, mput_id hM, List.length_map, range_fm L (0, 0) (fun pr => if decide (lt R O pr.1 pr.2 = k) = true then some (prN pr) else none), fm_if]
    exact hp

theorem dv_b {M M' : MHp} {b : Addr} {cs : List Addr} {R O : List Str} (hc : cs.length = lt R O R.length O.length) (h : LvAt M M' b cs (fun k => lvl R O k R.length O.length)) : DV 3 M' (.m b) (dueD R O) := by
  refine .inr ⟨b, _, _, rfl, rfl, h.at_b, by simp [hc], fun i hi => ?_⟩
  have hi : i < lt R O R.length O.length := by simpa using hi
  have hi' : i < cs.length := by omega
  have e1 : (cs.map Sl.m).getD i .n = .m (cs[i]) := by simp [List.getD_eq_getElem?_getD, hi']
  have e2 : ((List.range (lt R O R.length O.length)).map fun k => PyData.list (prs (lvl R O k R.length O.length))).getD i .none = .list (prs (lvl R O i R.length O.length)) := by simp [List.getD_eq_getElem?_getD, hi]
  rw [e1, e2]
  refine .inr ⟨_, _, _, rfl, rfl, h.at_c i _ (List.getElem?_eq_getElem hi'), by simp, fun j hj => ?_⟩
  have e3 : ((prs (lvl R O i R.length O.length)).map Sl.d).getD j .n = .d ((prs (lvl R O i R.length O.length)).getD j .none) := by simp [List.getD_eq_getElem?_getD, hj]
  rw [e3]; exact dv_d 1
theorem sh_due {R O : List Str} (hr : R.length ≤ 20) (ho : O.length ≤ 20) : Sh 3 (dueD R O) := by
  have := lt_le20 R O hr
  refine .inr ⟨_, .inl rfl, by simp; omega, fun y hy => ?_⟩
  obtain ⟨k, _, rfl⟩ := List.mem_map.mp hy
  have := lvl_len R O k hr ho
  exact sh_prs (by omega)
theorem dv_lst {M : MHp} {p : Addr} {L : List (Nat × Nat)} (h : M p = some (.lst ((prs L).map Sl.d))) : DV 3 M (.m p) (.list (prs L)) := by
  refine .inr ⟨p, _, _, rfl, rfl, h, by simp, fun j hj => ?_⟩
  have e3 : ((prs L).map Sl.d).getD j .n = .d ((prs L).getD j .none) := by simp [List.getD_eq_getElem?_getD, hj]
  rw [e3]; exact dv_d 2
theorem prs_at {L : List (Nat × Nat)} {i : Nat} {p : Nat × Nat} (h : L[i]? = some p) : (prs L)[i]? = some (prN p) := by unfold prs; rw [List.getElem?_map, h]; rfl
theorem kp_rise {R O : List Str} {i : Nat} {p q : Nat × Nat} (h1 : (kp R O)[i]? = some p) (h2 : (kp R O)[i + 1]? = some q) : p.1 < q.1 ∧ p.2 < q.2 := by
  have hp := dn_pw (kp_dn (R := R) (O := O))
  obtain ⟨l1, e1⟩ := List.getElem?_eq_some_iff.mp h1
  obtain ⟨l2, e2⟩ := List.getElem?_eq_some_iff.mp h2
  have := List.pairwise_iff_getElem.mp hp i (i + 1) l1 l2 (Nat.lt_succ_self _)
  rw [e1, e2] at this; exact this
theorem kp_lex (R O : List Str) : (kp R O).Pairwise lexLe := (dn_pw (kp_dn (R := R) (O := O))).imp fun h => .inl h.1
theorem lst_two {R O : List Str} : ∃ ds : List PyData, [Sl.d (.list (tx R)), Sl.d (.list (tx O))] = ds.map Sl.d ∧ ds = [.list (tx R), .list (tx O)] := ⟨_, rfl, rfl⟩
/-- a pair of the kept ones: its end, and that it rises -/
theorem right_b1 {R O : List Str} {M : MHp} {p q : Addr} {i : Nat} {pr : Nat × Nat} {s3 s4 s7 s8 s9 s11 : Sl} {D : DE} (hM : M p = some (endsM R O)) (hq : M q = some (.lst ((prs (kp R O)).map Sl.d))) (hi : (kp R O)[i]? = some pr)
    (hp : D.nx M [.d (.list (tx R)), .d (.list (tx O)), .m p, s3, s4, .d (prN pr), .d (.int (i : Nat)), s7, s8, s9, .m q, s11]) :
    c__law_right_b1 D M [.d (.list (tx R)), .d (.list (tx O)), .m p, s3, s4, .d (prN pr), .d (.int (i : Nat)), s7, s8, s9, .m q, s11] := by
  unfold c__law_right_b1
  obtain ⟨e1, e2⟩ := kp_at hi
  walk_at "dl"
  unfold dGet2
  walk_at "dl"
  refine ⟨p, rfl, .inr ⟨_, hM⟩, prN pr, some (.d (.int ((lt R O pr.1 pr.2 : Nat) + 1))), rfl, ?_, ?_⟩
  · unfold GetS
    rw [hM]
    exact ⟨keyP pr, keysOf_p pr, (gVal_ent e2).symm⟩
  show ρNe (.d (.int ((lt R O pr.1 pr.2 : Nat) + 1))) _ _ _
  refine ρNe_d ⟨shaped_int _, shaped_int _, _, rfl, ?_⟩
  rw [eqv_int, e1, decide_eq_true rfl]
  refine iteF ⟨_, rfl, ?_⟩
  cases i with
  | zero => exact iteF (iteF hp)
  | succ i =>
    rw [decide_eq_true (show (0 : Int) < ((i + 1 : Nat) : Int) by omega)]
    obtain ⟨pq, hpq⟩ : ∃ pq, (kp R O)[i]? = some pq := ⟨(kp R O)[i]'(by have := (List.getElem?_eq_some_iff.mp hi).1; omega), by simp⟩
    obtain ⟨r1, r2⟩ := kp_rise hpq hi
    have e0 : ((i + 1 : Nat) : Int) - 1 = (i : Int) := by omega
    have at0 : ∀ post : DP, post M (.d (prN pq)) → ρIx (.m q) (.d (.int (((i + 1 : Nat) : Int) - 1))) M post := fun post h => by
      rw [e0]
      refine ρIx_ml hq ⟨_, atI_at (i := i) ?_, h⟩
      rw [List.getElem?_map, prs_at hpq]; rfl
    refine iteT ⟨_, atI_at (i := 0) rfl, at0 _ ⟨_, atI_at (i := 0) rfl, ?_⟩⟩
    walk_at "dl"
    refine ⟨_, rfl, ?_⟩
    rw [decide_eq_false (show ¬ ((pr.1 : Int) ≤ pq.1) by omega)]
    refine iteF ⟨_, atI_at (i := 1) rfl, at0 _ ⟨_, atI_at (i := 1) rfl, ?_⟩⟩
    walk_at "dl"
    refine ⟨_, rfl, ?_⟩
    rw [decide_eq_false (show ¬ ((pr.2 : Int) ≤ pq.2) by omega)]
    exact iteF hp
/-- a turn -/
theorem right_b3 {R O : List Str} {M1 M : MHp} {p : Addr} {s5 s6 s7 s8 s9 s10 s11 : Sl} {D : DE} (hR : TxOk R) (hO : TxOk O) (hr : R.length ≤ 20) (ho : O.length ≤ 20) (hx : Ext M1 M) (hM1 : M1 p = some (endsM R O))
    (hp : ∀ M' t5 t6 t7 t8 t9 t10 t11, Ext M1 M' → D.nx M' [.d (.list (tx R)), .d (.list (tx O)), .m p, .d (.int (lt R O R.length O.length : Nat)), .d (dueD R O), t5, t6, t7, t8, t9, t10, t11]) :
    c__law_right_b3 D M [.d (.list (tx R)), .d (.list (tx O)), .m p, .d (.int (lt R O R.length O.length : Nat)), .d (dueD R O), s5, s6, s7, s8, s9, s10, s11] := by
  unfold c__law_right_b3
  walk_at "dl"
  refine ⟨_, _, rfl, .inl (.inl rfl), iteF ⟨_, _, rfl, .inl (.inl rfl), iteF ⟨[.list (tx R), .list (tx O)], rfl, sz (by simp), ?_⟩⟩⟩
  refine ⟨_, atI_at (i := 0) rfl, ?_⟩
  walk_at "dl"
  refine ⟨_, atI_at (i := 1) rfl, ?_⟩
  refine ⟨R, O, rfl, hR, hO, fun M2 q b cs hq hc hlv => ?_⟩
  refine ⟨[.list (tx R), .list (tx O)], rfl, sz (by simp), ?_⟩
  have hs := shaped_two hR hO
  refine ρNe_d ⟨hs, hs, _, rfl, ?_⟩
  rw [eqv_rfl hs]
  refine iteF ?_
  have x1 : Ext M (mput M q (.lst ((prs (kp R O)).map Sl.d))) := Ext.put hq
  have x2 : Ext M1 M2 := (hx.trans x1).trans hlv.ext
  have hMp : M2 p = some (endsM R O) := x2 _ _ hM1
  have hMq : M2 q = some (.lst ((prs (kp R O)).map Sl.d)) := hlv.ext _ _ mput_same
  refine ⟨"tuple", rfl, iteF ?_⟩
  walk_at "dl"
  refine ρNe_d ⟨shaped_int _, shaped_int _, _, rfl, ?_⟩
  rw [eqv_int]
  refine iteF ?_
  refine ⟨_, atI_at (i := 1) rfl, ?_⟩
  refine ⟨_, _, rfl, dv_b hc hlv, sh_due hr ho, ?_⟩
  walk_at "dl"
  refine iteF ⟨_, atI_at (i := 0) rfl, ?_⟩
  walk_at "dl"
  refine ρSort_prs hMq (kp_lex R O) ?_
  have hk20 : (kp R O).length ≤ 20 := by rw [← lt_total]; exact lt_le20 R O hr
  refine ⟨_, _, rfl, dv_lst hMq, .inl (sh_prs (by omega)), ?_⟩
  walk_at "dl"
  refine iteF (ρLen_m hMq ?_)
  refine ρNe_d ⟨shaped_int _, shaped_int _, _, rfl, ?_⟩
  rw [eqv_int, List.length_map, prs_len, lt_total, decide_eq_true rfl]
  refine iteF ?_
  unfold dFor
  walk_at "dl"
  refine ⟨_, prs (kp R O), rfl, .inl hMq, fun i M' es' => M' = M2 ∧ ∃ t5 t6, es' = [.d (.list (tx R)), .d (.list (tx O)), .m p, .d (.int ((kp R O).length : Nat)), .d (dueD R O), t5, t6, s7, .d (.list [.list (tx R), .list (tx O)]), .t [.m q, .m b], .m q, s11], ⟨rfl, _, _, rfl⟩, fun i M' es' _ h => by rw [h.1]; exact hMq, ?_, ?_⟩
  · rintro i M' es' hi ⟨rfl, t5, t6, rfl⟩
    have hi : i < (kp R O).length := by rw [prs_len] at hi; exact hi
    have e1 : (prs (kp R O)).getD i .none = prN (kp R O)[i] := by rw [List.getD_eq_getElem?_getD, prs_at (List.getElem?_eq_getElem hi)]; rfl
    walk_at "dl"
    refine ⟨_, rfl, rfl, ?_⟩
    walk_at "dl"
    rw [e1]
    exact right_b1 hMp hMq (List.getElem?_eq_getElem hi) ⟨rfl, _, _, rfl⟩
  rintro M' es' ⟨rfl, t5, t6, rfl⟩
  walk_at "dl"
  refine ⟨_, atI_at (i := 0) rfl, .inl ⟨rfl, _, hMq⟩, [.int 0, .int 0], rfl, sz (by simp), ?_⟩
  walk_at "dl"
  refine ⟨_, hMq, szl (by simp [prs_len]; omega), ?_⟩
  have nqb : q ≠ b := fun e => by subst e; have := hlv.nb; rw [mput_same] at this; cases this
  have nqc : ∀ c ∈ cs, q ≠ c := fun c hc e => by subst e; have := (hlv.nc _ hc).1; rw [mput_same] at this; cases this
  have freeM : ∀ a, (mput M q (.lst ((prs (kp R O)).map Sl.d))) a = none → M1 a = none := fun a h => by
    cases e : M1 a with
    | none => rfl
    | some o => have := x1 _ _ (hx _ _ e); rw [h] at this; cases this
  have fq : M1 q = none := by
    cases e : M1 q with
    | none => rfl
    | some o => have := hx _ _ e; rw [hq] at this; cases this
  refine ⟨_, atI_at (i := 1) rfl, cs.map Sl.m, by rw [mput_ne nqb.symm]; exact hlv.at_b, fun i M' es' => (Ext M1 M' ∧ M' b = some (.lst (cs.map Sl.m)) ∧ ∀ c ∈ cs, ∃ ss, M' c = some (.lst ss) ∧ ss.length ≤ 400 + i) ∧ ∃ t11, es' = [.d (.list (tx R)), .d (.list (tx O)), .m p, .d (.int ((kp R O).length : Nat)), .d (dueD R O), t5, t6, s7, .d (.list [.list (tx R), .list (tx O)]), .t [.m q, .m b], .m q, t11], ⟨⟨x2.put' fq, by rw [mput_ne nqb.symm]; exact hlv.at_b, fun c hcs => ?_⟩, _, rfl⟩, fun i M' es' _ h => h.1.2.1, ?_, ?_⟩
  · obtain ⟨k, hk, e⟩ := List.getElem_of_mem hcs
    refine ⟨_, by rw [mput_ne (nqc c hcs).symm]; exact hlv.at_c k c (by rw [← e]; simp), ?_⟩
    have := lvl_len R O k hr ho
    simp [prs_len]; omega
  · rintro i M' es' hi ⟨⟨h1, h2, h3⟩, t11, rfl⟩
    have hi : i < cs.length := by have : i < (cs.map Sl.m).length := hi; rwa [List.length_map] at this
    have e1 : (cs.map Sl.m).getD i .n = .m cs[i] := by simp [List.getD_eq_getElem?_getD, hi]
    unfold c__law_right_b2
    walk_at "dl"
    show dVs (some ((cs.map Sl.m).getD i .n)) _ _
    rw [e1]
    have hci : cs[i] ∈ cs := List.getElem_mem hi
    obtain ⟨ss, g1, g2⟩ := h3 _ hci
    have gn := (hlv.nc _ hci).2
    have hcl : cs.length ≤ 20 := by rw [hc]; exact lt_le20 R O hr
    walk_at "dl"
    refine ⟨.inl ⟨rfl, _, g1⟩, [.int 0, .int 0], rfl, sz (by simp), ?_⟩
    walk_at "dl"
    refine ⟨_, g1, szl (by omega), ⟨h1.put' (freeM _ (hlv.nc _ hci).1), by rw [mput_ne gn.symm]; exact h2, fun c hcs => ?_⟩, _, rfl⟩
    by_cases e : c = cs[i]
    · subst e
      exact ⟨_, mput_same, by rw [List.length_append]; simp; omega⟩
    · obtain ⟨us, k1, k2⟩ := h3 c hcs
      exact ⟨us, by rw [mput_ne e]; exact k1, by omega⟩
  · rintro M' es' ⟨⟨h1, h2, h3⟩, t11, rfl⟩
    walk_at "dl"
    refine ⟨_, atI_at (i := 1) rfl, .inl ⟨rfl, _, h2⟩, [], rfl, sz (by simp), ?_⟩
    walk_at "dl"
    refine ⟨_, h2, szl (by rw [List.length_map, hc]; have := lt_le20 R O hr; omega), ?_⟩
    rw [← lt_total]
    exact hp _ _ _ _ _ _ _ _ (h1.put' (freeM b hlv.nb))

theorem does__law_right : Does 12 φ__law_right c__law_right := by
  rintro M ss post ⟨R, O, rfl, hR, hO, hr, ho, hp⟩
  show c__law_right _ M [.d (.list (tx R)), .d (.list (tx O)), .n, .n, .n, .n, .n, .n, .n, .n, .n, .n]
  unfold c__law_right
  walk_at "dl"
  refine ⟨R, O, rfl, hR, hO, hr, ho, fun p hp0 => ?_⟩
  have hll := likes_len (R := R) (O := O) R.length O.length
  have hb : R.length * O.length ≤ 20 * 20 := Nat.mul_le_mul hr ho
  have hM1 : (mput M p (endsM R O)) p = some (endsM R O) := mput_same
  have hx1 : Ext M (mput M p (endsM R O)) := Ext.put hp0
  change _
  refine ⟨[.int 0], rfl, sz (by simp), ?_⟩
  unfold dListVals
  walk_at "dl"
  refine ⟨p, rfl, .inr ⟨_, (likes R O R.length O.length).map fun pr => .int ((lt R O pr.1 pr.2 : Nat) + 1), mput_same, by simp [entS, Function.comp_def], ?_⟩⟩
  refine ρAdd_lst ⟨sz (by simp; omega), ?_⟩
  refine ⟨(0 : Int) :: (likes R O R.length O.length).map fun pr => ((lt R O pr.1 pr.2 : Nat) : Int) + 1, ?_, by simp, fun mx m1 m2 => ?_⟩
  · show PyData.int 0 :: _ = _
    rw [List.map_cons, List.map_map]; rfl
  have emx := max_lt (R := R) (O := O) (i := R.length) (j := O.length) (fun q hq => mem_likes.mp hq) (fun a b ha hb hab => mem_likes.mpr ⟨ha, hb, hab⟩) m1 m2
  subst emx
  have h20 := lt_le20 R O hr
  refine lc_pure (wkR 0 (lt R O R.length O.length)) (fun k => some (.list (prs (lvl R O k R.length O.length)))) (fun C hC => ?_) (by show lt _ _ _ _ ≤ _; omega) (fun _ _ _ => trivial) (fun k hk Dn acc hD A B hA hB => ?_) ?_
  · walk_at "dl"
    exact ⟨_, rfl, ⟨by omega, by omega⟩, hC⟩
  · have npD : p ≠ Dn := fun e => by subst e; rw [mput_same] at hD; cases hD
    walk_at "dl"
    have e0 : ((0 : Int) + (k : Nat)) = (k : Int) := by omega
    rw [e0]
    refine iteT (level_lc hr ho (by rw [mput_ne npD]; exact mput_same) rfl ?_)
    exact ρSort_prs rfl (lvl_pw k R.length O.length) (hA _ rfl)
  have edue : (List.range (lt R O R.length O.length)).filterMap (fun k => some (PyData.list (prs (lvl R O k R.length O.length)))) = (List.range (lt R O R.length O.length)).map fun k => PyData.list (prs (lvl R O k R.length O.length)) := by rw [List.filterMap_eq_map']
  have edue : PyData.list ((List.range (wkR 0 (lt R O R.length O.length)).n).filterMap (fun k => some (PyData.list (prs (lvl R O k R.length O.length))))) = dueD R O := congrArg PyData.list edue
  rw [edue]
  unfold dFor
  walk_at "dl"
  refine ⟨_, rfl, ⟨by decide, by decide⟩, fun i M' es' => Ext (mput M p (endsM R O)) M' ∧ ∃ t5 t6 t7 t8 t9 t10 t11, es' = [.d (.list (tx R)), .d (.list (tx O)), .m p, .d (.int (lt R O R.length O.length : Nat)), .d (dueD R O), t5, t6, t7, t8, t9, t10, t11], ⟨Ext.refl _, _, _, _, _, _, _, _, rfl⟩, fun _ _ _ _ _ => trivial, ?_, ?_⟩
  · rintro i M' es' hi ⟨hx, t5, t6, t7, t8, t9, t10, t11, rfl⟩
    walk_at "dl"
    exact right_b3 hR hO hr ho hx hM1 fun M' _ _ _ _ _ _ _ h => ⟨h, _, _, _, _, _, _, _, rfl⟩
  · rintro M' es' ⟨hx, t5, t6, t7, t8, t9, t10, t11, rfl⟩
    walk_at "dl"
    refine ⟨_, _, rfl, .inl (.inl rfl), iteF ⟨_, _, rfl, .inl (.inl rfl), iteF ⟨[.list (tx R), .list (tx O)], rfl, sz (by simp), ?_⟩⟩⟩
    refine ⟨_, atI_at (i := 0) rfl, ?_⟩
    walk_at "dl"
    refine ⟨_, atI_at (i := 1) rfl, ?_⟩
    refine ⟨R, O, rfl, hR, hO, fun q o hq => ?_⟩
    walk_at "dl"
    refine ⟨.inl ⟨by decide, by decide⟩, _, .int ((R.length : Int) + O.length - 2 * (kp R O).length), ?_, dv_d 3, .inl (.inl (.inl (sh_int _))), ?_⟩
    · rw [lt_total]; simp
    walk_at "dl"
    refine iteF ⟨[.list (tx R), .list (tx O)], rfl, sz (by simp), ?_⟩
    have hs := shaped_two hR hO
    refine ρEq_d ⟨hs, hs, ?_⟩
    rw [eqv_rfl hs]
    exact hp _ ((hx1.trans hx).trans (Ext.put hq))
theorem does_law : Does 5 φ_law c_law := by
  rintro M ss post ⟨ns, rfl, hl, hp⟩
  show c_law _ M [.s ns, .n, .n, .n, .n]
  unfold c_law
  walk_at "dl"
  refine ⟨ns, rfl, hl, fun M1 m r hd _ _ _ => ?_⟩
  unfold dFor
  walk_at "dl"
  refine ⟨_, rfl, ⟨by split <;> split <;> omega, by split <;> split <;> omega⟩, fun i M' es' => (∃ k, k ≤ 60 * i ∧ DSt M' m r ns k) ∧ ∃ t2 t3 t4, es' = [.s ns, .m m, t2, t3, t4], ⟨⟨0, by omega, hd⟩, _, _, _, rfl⟩, fun _ _ _ _ _ => trivial, ?_, ?_⟩
  · rintro i M' es' hi ⟨⟨k, hk, hd⟩, t2, t3, t4, rfl⟩
    have hi : i < 64 := by
      have hi : i < Int.toNat _ := hi
      revert hi; split <;> split <;> omega
    unfold c_law_b1
    walk_at "dl"
    refine ⟨m, r, ns, k, rfl, hd, by omega, hl, fun M2 R O k' hR hO rl ol hd2 hk' => ?_⟩
    refine ⟨_, rfl, rfl, ?_⟩
    walk_at "dl"
    refine ⟨R, O, rfl, hR, hO, by omega, by omega, fun M3 x3 => ?_⟩
    walk_at "dl"
    refine iteF ⟨O, R, rfl, hO, hR, by omega, by omega, fun M4 x4 => ?_⟩
    walk_at "dl"
    refine iteF ⟨⟨k', by omega, ?_⟩, _, _, _, rfl⟩
    have x := x3.trans x4
    exact ⟨hd2.ne, x _ _ hd2.md, let ⟨rs, a, b⟩ := hd2.rs; ⟨rs, a, x _ _ b⟩⟩
  · rintro M' es' ⟨_, t2, t3, t4, rfl⟩
    walk_at "dl"
    have tn : TxOk [] := ⟨by simp, fun t ht => by cases ht⟩
    have ta : ∀ n, n ≤ 20 → TxOk (List.replicate n ("a" : Str)) := fun n hn => ⟨by simp; omega, fun t ht => by rw [List.eq_of_mem_replicate ht]; decide +kernel⟩
    refine ⟨[], rfl, sz (by simp), [], rfl, sz (by simp), ?_⟩
    refine ⟨[], [], rfl, tn, tn, by simp, by simp, fun M3 x3 => ?_⟩
    refine ⟨_, rfl, iteT ?_⟩
    refine ⟨[.str "a"], rfl, sz (by simp), ρMul_lst ⟨by decide, by decide, sz (by decide), ?_⟩⟩
    refine ⟨[.str "a"], rfl, sz (by simp), ρMul_lst ⟨by decide, by decide, sz (by decide), ?_⟩⟩
    refine ⟨List.replicate 20 "a", List.replicate 9 "a", rfl, ta 20 (by omega), ta 9 (by omega), by simp, by simp, fun M4 x4 => hp _⟩
end Lst
set_option Elab.async false
set_option linter.all false
set_option autoImplicit false
set_option maxRecDepth 100000
set_option maxHeartbeats 4000000
namespace Lst
open PySem PySem.Spec PyProof.Rows L2 DL
theorem len_common_ahead (M : MHp) (ss : List Sl) (post : DP) (h : φ_common_ahead M ss post) : ss.length = 2 := by obtain ⟨_, _, rfl, _⟩ := h; rfl
theorem len_common_behind (M : MHp) (ss : List Sl) (post : DP) (h : φ_common_behind M ss post) : ss.length = 2 := by obtain ⟨_, _, rfl, _⟩ := h; rfl
theorem len_kept_pairs (M : MHp) (ss : List Sl) (post : DP) (h : φ_kept_pairs M ss post) : ss.length = 2 := by obtain ⟨_, _, rfl, _⟩ := h; rfl
theorem len_pair_levels (M : MHp) (ss : List Sl) (post : DP) (h : φ_pair_levels M ss post) : ss.length = 2 := by obtain ⟨_, _, rfl, _⟩ := h; rfl
theorem len_least_change (M : MHp) (ss : List Sl) (post : DP) (h : φ_least_change M ss post) : ss.length = 2 := by obtain ⟨_, _, rfl, _⟩ := h; rfl
theorem len_least_cost (M : MHp) (ss : List Sl) (post : DP) (h : φ_least_cost M ss post) : ss.length = 2 := by obtain ⟨_, _, rfl, _⟩ := h; rfl
theorem len__law_started (M : MHp) (ss : List Sl) (post : DP) (h : φ__law_started M ss post) : ss.length = 1 := by obtain ⟨_, rfl, _⟩ := h; rfl
theorem len__law_draw (M : MHp) (ss : List Sl) (post : DP) (h : φ__law_draw M ss post) : ss.length = 2 := by obtain ⟨_, _, _, _, _, rfl, _⟩ := h; rfl
theorem len__law_of (M : MHp) (ss : List Sl) (post : DP) (h : φ__law_of M ss post) : ss.length = 2 := by obtain ⟨_, _, _, _, _, rfl, _⟩ := h; rfl
theorem len_alike {n : Nat} (M : MHp) (ss : List Sl) (post : DP) (h : alikeN n M ss post) : ss.length = 2 := by obtain ⟨_, _, rfl, _⟩ := h; rfl
theorem len_law (M : MHp) (ss : List Sl) (post : DP) (h : φ_law M ss post) : ss.length = 1 := by obtain ⟨_, rfl, _⟩ := h; rfl
theorem len__law_rows (M : MHp) (ss : List Sl) (post : DP) (h : φ__law_rows M ss post) : ss.length = 1 := by obtain ⟨_, _, _, _, rfl, _⟩ := h; rfl
theorem len__law_ends (M : MHp) (ss : List Sl) (post : DP) (h : φ__law_ends M ss post) : ss.length = 2 := by obtain ⟨_, _, rfl, _⟩ := h; rfl
theorem len__law_right (M : MHp) (ss : List Sl) (post : DP) (h : φ__law_right M ss post) : ss.length = 2 := by obtain ⟨_, _, rfl, _⟩ := h; rfl
end Lst
set_option Elab.async false
set_option linter.all false
set_option maxRecDepth 100000
set_option maxHeartbeats 4000000
namespace Lst
open PySem PySem.Spec PyProof.Rows L2 DL
def top (i : Nat) : Stmt := PySem.Challenge.pw_manyheads_k30_least_changes.main.body.getD i (.Pass ⟨0, 0, 0, 0⟩)
abbrev s_common_ahead : Stmt := top 1
theorem sc_common_ahead : FnScope ["rows", "others", "found", "text", "last", "row", "place", "other"] ["rows", "others"] (defScope s_common_ahead) := ⟨rfl, rfl, rfl, by decide +kernel, rfl, by decide +kernel, by decide +kernel⟩
abbrev s_common_behind : Stmt := top 2
theorem sc_common_behind : FnScope ["rows", "others", "turned", "row"] ["rows", "others"] (defScope s_common_behind) := ⟨rfl, rfl, rfl, by decide +kernel, rfl, by decide +kernel, by decide +kernel⟩
abbrev s_kept_pairs : Stmt := top 3
theorem sc_kept_pairs : FnScope ["rows", "others", "behind", "found", "here", "there", "one", "wanted", "other"] ["rows", "others"] (defScope s_kept_pairs) := ⟨rfl, rfl, rfl, by decide +kernel, rfl, by decide +kernel, by decide +kernel⟩
abbrev s_pair_levels : Stmt := top 4
theorem sc_pair_levels : FnScope ["rows", "others", "ahead", "found", "turn", "one", "text", "other"] ["rows", "others"] (defScope s_pair_levels) := ⟨rfl, rfl, rfl, by decide +kernel, rfl, by decide +kernel, by decide +kernel⟩
abbrev s_least_change : Stmt := top 5
theorem sc_least_change : FnScope ["rows", "others"] ["rows", "others"] (defScope s_least_change) := ⟨rfl, rfl, rfl, by decide +kernel, rfl, by decide +kernel, by decide +kernel⟩
abbrev s_least_cost : Stmt := top 6
theorem sc_least_cost : FnScope ["rows", "others"] ["rows", "others"] (defScope s_least_cost) := ⟨rfl, rfl, rfl, by decide +kernel, rfl, by decide +kernel, by decide +kernel⟩
abbrev s__law_started : Stmt := top 8
theorem sc__law_started : FnScope ["_law_script", "_law_cell"] ["_law_script"] (defScope s__law_started) := ⟨rfl, rfl, rfl, by decide +kernel, rfl, by decide +kernel, by decide +kernel⟩
abbrev s__law_draw : Stmt := top 9
theorem sc__law_draw : FnScope ["_law_m", "_law_many", "_law_k", "_law_cells", "_law_left", "_law_cell", "_law_number"] ["_law_m", "_law_many"] (defScope s__law_draw) := ⟨rfl, rfl, rfl, by decide +kernel, rfl, by decide +kernel, by decide +kernel⟩
abbrev s__law_of : Stmt := top 10
theorem sc__law_of : FnScope ["_law_m", "_law_some"] ["_law_m", "_law_some"] (defScope s__law_of) := ⟨rfl, rfl, rfl, by decide +kernel, rfl, by decide +kernel, by decide +kernel⟩
abbrev s__law_alike : Stmt := top 11
theorem sc__law_alike : FnScope ["_law_found", "_law_due", "_law_one", "_law_other"] ["_law_found", "_law_due"] (defScope s__law_alike) := ⟨rfl, rfl, rfl, by decide +kernel, rfl, by decide +kernel, by decide +kernel⟩
abbrev s__law_rows : Stmt := top 12
theorem sc__law_rows : FnScope ["_law_m", "_law_some", "_law_one", "_law_k", "_law_other", "_law_at", "_law_way"] ["_law_m"] (defScope s__law_rows) := ⟨rfl, rfl, rfl, by decide +kernel, rfl, by decide +kernel, by decide +kernel⟩
abbrev s__law_ends : Stmt := top 13
theorem sc__law_ends : FnScope ["_law_one", "_law_other", "_law_found", "_law_first", "_law_second", "_law_ahead", "_law_pair"] ["_law_one", "_law_other"] (defScope s__law_ends) := ⟨rfl, rfl, rfl, by decide +kernel, rfl, by decide +kernel, by decide +kernel⟩
abbrev s__law_right : Stmt := top 14
theorem sc__law_right : FnScope ["_law_one", "_law_other", "_law_ends_here", "_law_most", "_law_due", "_law_pair", "_law_k", "_law_turn", "_law_handed", "_law_found", "_law_pairs", "_law_level"] ["_law_one", "_law_other"] (defScope s__law_right) := ⟨rfl, rfl, rfl, by decide +kernel, rfl, by decide +kernel, by decide +kernel⟩
abbrev s_law : Stmt := top 15
theorem sc_law : FnScope ["_law_script", "_law_m", "_law_k", "_law_one", "_law_other"] ["_law_script"] (defScope s_law) := ⟨rfl, rfl, rfl, by decide +kernel, rfl, by decide +kernel, by decide +kernel⟩
section
variable {P : Program} {w : World} {K : PySem.W.Frag} {mg : Str → Option Value} {base : Heap}
theorem ok_common_ahead (F : DfA K mg "common_ahead" s_common_ahead ["rows", "others"]) (n_len : mg "len" = none) (n_enumerate : mg "enumerate" = none) (n_max : mg "max" = none)  : Cal P w K mg base 1 "common_ahead" φ_common_ahead := by
  have nd := sc_common_ahead.nd
  exact calD F sc_common_ahead len_common_ahead (fun f cdv A outer s H E hr =>
    (pds_cons (pds_set (i := 2) nd rfl (by first | exact Or.inl rfl | exact Or.inr rfl) (pd_lstM (pda_cons (pd_mul (pd_lst (pda_cons pd_int pda_nil)) (pd_add (pd_len rfl n_len (pda_cons (pd_of_var (pv 1)) pda_nil)) pd_int)) pda_nil)))
    (pds_cons (pds_for PassesOwn.never rfl (pdi_seq (pd_of_var (pv 0))) (pdg_nm (i := 3) nd rfl (by first | exact Or.inl rfl | exact Or.inr rfl))
    (pds_cons (pds_set (i := 4) nd rfl (by first | exact Or.inl rfl | exact Or.inr rfl) (pd_item (pd_of_var (pv 2)) (pd_neg pd_int) (fun _ _ => rfl)))
    (pds_cons (pds_set (i := 5) nd rfl (by first | exact Or.inl rfl | exact Or.inr rfl) (pd_lstM (pda_cons pd_int pda_nil)))
    (pds_cons (pds_for PassesOwn.never rfl (pdi_enum rfl n_enumerate (pda_cons (pd_of_var (pv 1)) pda_nil)) (pdg_tp (js := [6, 7]) rfl (pdgs_cons (i := 6) (js := [7]) nd rfl (by first | exact Or.inl rfl | exact Or.inr rfl) (pdgs_cons (i := 7) (js := []) nd rfl (by first | exact Or.inl rfl | exact Or.inr rfl) pgs_nil)))
    (pds_one (pds_expr (pd_append (pd_of_var (pv 5)) (pda_cons (pd_ifE (pdt_eq hr.units (pd_of_var (pv 3)) (pd_of_var (pv 7))) (pd_add (pd_item (pd_of_var (pv 4)) (pd_of_var (pv 6)) (fun _ _ => rfl)) pd_int) (pd_max rfl rfl n_max (pda_cons (pd_item (pd_of_var (pv 4)) (pd_add (pd_of_var (pv 6)) pd_int) (fun _ _ => rfl)) (pda_cons (pd_item (pd_of_var (pv 5)) (pd_of_var (pv 6)) (fun _ _ => rfl)) pda_nil)))) pda_nil)))))
    (pds_one (pds_expr (pd_append (pd_of_var (pv 2)) (pda_cons (pd_of_varF (pv 5)) pda_nil))))))))
    (pds_one (pds_ret (pd_of_varF (pv 2))))))) does_common_ahead
theorem ok_common_behind (F : DfA K mg "common_behind" s_common_behind ["rows", "others"])  (C_common_ahead : Cal P w K mg base 1 "common_ahead" φ_common_ahead) : Cal P w K mg base 2 "common_behind" φ_common_behind := by
  have nd := sc_common_behind.nd
  exact calD F sc_common_behind len_common_behind (fun f cdv A outer s H E hr =>
    (pds_cons (pds_set (i := 2) nd rfl (by first | exact Or.inl rfl | exact Or.inr rfl) (pd_callC C_common_ahead hr (by decide) rfl (pda_cons (pd_rev (pd_of_var (pv 0))) (pda_cons (pd_rev (pd_of_var (pv 1))) pda_nil))))
    (pds_one (pds_ret (pd_lc (own := [("row", 3)]) fin_D rfl nd (pdi_seq (pd_rev (pd_of_var (pv 2)))) (blkOk_by (own := [("row", 3)]) (by kernel_rfl)) (by decide) (fun _ _ _ _ _ => (pdg_nm (i := 3) nd rfl (by first | exact Or.inl rfl | exact Or.inr rfl))) (fun _ _ _ _ _ => pdts_nil) (fun _ _ _ _ _ => (pd_rev (pd_of_var (pv 3))))))))) does_common_behind
theorem ok_kept_pairs (F : DfA K mg "kept_pairs" s_kept_pairs ["rows", "others"]) (n_range : mg "range" = none) (n_len : mg "len" = none) (C_common_behind : Cal P w K mg base 2 "common_behind" φ_common_behind) : Cal P w K mg base 3 "kept_pairs" φ_kept_pairs := by
  have nd := sc_kept_pairs.nd
  exact calD F sc_kept_pairs len_kept_pairs (fun f cdv A outer s H E hr =>
    (pds_cons (pds_set (i := 2) nd rfl (by first | exact Or.inl rfl | exact Or.inr rfl) (pd_callC C_common_behind hr (by decide) rfl (pda_cons (pd_of_var (pv 0)) (pda_cons (pd_of_var (pv 1)) pda_nil))))
    (pds_cons (pds_set (i := 3) nd rfl (by first | exact Or.inl rfl | exact Or.inr rfl) (pd_lstM pda_nil))
    (pds_cons (pds_asg (pd_tup (pda_cons pd_int (pda_cons pd_int pda_nil))) (pdg_tp (js := [4, 5]) rfl (pdgs_cons (i := 4) (js := [5]) nd rfl (by first | exact Or.inl rfl | exact Or.inr rfl) (pdgs_cons (i := 5) (js := []) nd rfl (by first | exact Or.inl rfl | exact Or.inr rfl) pgs_nil))))
    (pds_cons (pds_for PassesOwn.never rfl (pdi_range1 rfl n_range (pda_cons (pd_len rfl n_len (pda_cons (pd_of_var (pv 0)) pda_nil)) pda_nil)) (pdg_nm (i := 6) nd rfl (by first | exact Or.inl rfl | exact Or.inr rfl))
    (pds_cons (pds_set (i := 7) nd rfl (by first | exact Or.inl rfl | exact Or.inr rfl) (pd_item (pd_item (pd_of_var (pv 2)) (pd_of_var (pv 4)) (fun _ _ => rfl)) (pd_of_var (pv 5)) (fun _ _ => rfl)))
    (pds_one (pds_for PassesOwn.never rfl (pdi_range2 rfl n_range (pda_cons (pd_of_var (pv 5)) (pda_cons (pd_len rfl n_len (pda_cons (pd_of_var (pv 1)) pda_nil)) pda_nil))) (pdg_nm (i := 8) nd rfl (by first | exact Or.inl rfl | exact Or.inr rfl))
    (pds_one (pds_if (PW.pt (pdw_and (pdt_eq hr.units (pd_item (pd_of_var (pv 0)) (pd_of_var (pv 6)) (fun _ _ => rfl)) (pd_item (pd_of_var (pv 1)) (pd_of_var (pv 8)) (fun _ _ => rfl))) (pdw_and (pdt_gt (pd_of_var (pv 7)) pd_int) (pdw_and1 (pdt_eq hr.units (pd_add pd_int (pd_item (pd_item (pd_of_var (pv 2)) (pd_add (pd_of_var (pv 6)) pd_int) (fun _ _ => rfl)) (pd_add (pd_of_var (pv 8)) pd_int) (fun _ _ => rfl))) (pd_of_var (pv 7))))))) (pds_cons (pds_expr (pd_append (pd_of_var (pv 3)) (pda_cons (pd_tup (pda_cons (pd_of_var (pv 6)) (pda_cons (pd_of_var (pv 8)) pda_nil))) pda_nil)))
    (pds_cons (pds_par (i := 4) (j := 5) rfl nd rfl rfl (by decide) rfl rfl (pda_cons (pd_add (pd_of_var (pv 6)) pd_int) (pda_cons (pd_add (pd_of_var (pv 8)) pd_int) pda_nil)) rfl)
    (pds_one pds_break)))
    pds_nil))))))
    (pds_one (pds_ret (pd_of_var (pv 3))))))))) does_kept_pairs
theorem ok_pair_levels (F : DfA K mg "pair_levels" s_pair_levels ["rows", "others"]) (n_range : mg "range" = none) (n_len : mg "len" = none) (n_enumerate : mg "enumerate" = none) (C_common_ahead : Cal P w K mg base 1 "common_ahead" φ_common_ahead) : Cal P w K mg base 2 "pair_levels" φ_pair_levels := by
  have nd := sc_pair_levels.nd
  exact calD F sc_pair_levels len_pair_levels (fun f cdv A outer s H E hr =>
    (pds_cons (pds_set (i := 2) nd rfl (by first | exact Or.inl rfl | exact Or.inr rfl) (pd_callC C_common_ahead hr (by decide) rfl (pda_cons (pd_of_var (pv 0)) (pda_cons (pd_of_var (pv 1)) pda_nil))))
    (pds_cons (pds_setLc (i := 3) (own := [("turn", 4)]) fin_M rfl nd rfl rfl (sw_true rfl rfl rfl (by decide +kernel)) (pdi_range1 rfl n_range (pda_cons (pd_item (pd_item (pd_of_var (pv 2)) (pd_len rfl n_len (pda_cons (pd_of_var (pv 0)) pda_nil)) (fun _ _ => rfl)) (pd_len rfl n_len (pda_cons (pd_of_var (pv 1)) pda_nil)) (fun _ _ => rfl)) pda_nil)) (blkOk_by (own := [("turn", 4)]) (by kernel_rfl)) (by decide) (fun _ _ _ _ _ => (pdg_nm (i := 4) nd rfl (by first | exact Or.inl rfl | exact Or.inr rfl))) (fun _ _ _ _ _ => pdts_nil) (fun _ _ _ _ _ => (pd_lstM pda_nil)))
    (pds_cons (pds_for PassesOwn.never rfl (pdi_enum rfl n_enumerate (pda_cons (pd_of_var (pv 0)) pda_nil)) (pdg_tp (js := [5, 6]) rfl (pdgs_cons (i := 5) (js := [6]) nd rfl (by first | exact Or.inl rfl | exact Or.inr rfl) (pdgs_cons (i := 6) (js := []) nd rfl (by first | exact Or.inl rfl | exact Or.inr rfl) pgs_nil)))
    (pds_one (pds_for PassesOwn.never rfl (pdi_range1 rfl n_range (pda_cons (pd_len rfl n_len (pda_cons (pd_of_var (pv 1)) pda_nil)) pda_nil)) (pdg_nm (i := 7) nd rfl (by first | exact Or.inl rfl | exact Or.inr rfl))
    (pds_one (pds_if (pdt_eq hr.units (pd_of_var (pv 6)) (pd_item (pd_of_var (pv 1)) (pd_of_var (pv 7)) (fun _ _ => rfl))) (pds_one (pds_expr (pd_append (pd_item (pd_of_var (pv 3)) (pd_item (pd_item (pd_of_var (pv 2)) (pd_of_var (pv 5)) (fun _ _ => rfl)) (pd_of_var (pv 7)) (fun _ _ => rfl)) (fun _ _ => rfl)) (pda_cons (pd_tup (pda_cons (pd_of_var (pv 5)) (pda_cons (pd_of_var (pv 7)) pda_nil))) pda_nil))))
    pds_nil)))))
    (pds_one (pds_ret (pd_of_var (pv 3)))))))) does_pair_levels
theorem ok_least_change (F : DfA K mg "least_change" s_least_change ["rows", "others"])  (C_pair_levels : Cal P w K mg base 2 "pair_levels" φ_pair_levels) (C_kept_pairs : Cal P w K mg base 3 "kept_pairs" φ_kept_pairs) : Cal P w K mg base 4 "least_change" φ_least_change := by
  have nd := sc_least_change.nd
  exact calD F sc_least_change len_least_change (fun f cdv A outer s H E hr =>
    (pds_one (pds_ret (pd_tupT (pda_cons (pd_callC C_kept_pairs hr (by decide) rfl (pda_cons (pd_of_var (pv 0)) (pda_cons (pd_of_var (pv 1)) pda_nil))) (pda_cons (pd_callC C_pair_levels hr (by decide) rfl (pda_cons (pd_of_var (pv 0)) (pda_cons (pd_of_var (pv 1)) pda_nil))) pda_nil)))))) does_least_change
theorem ok_least_cost (F : DfA K mg "least_cost" s_least_cost ["rows", "others"]) (n_len : mg "len" = none) (C_kept_pairs : Cal P w K mg base 3 "kept_pairs" φ_kept_pairs) : Cal P w K mg base 4 "least_cost" φ_least_cost := by
  have nd := sc_least_cost.nd
  exact calD F sc_least_cost len_least_cost (fun f cdv A outer s H E hr =>
    (pds_one (pds_ret (pd_sub (pd_add (pd_len rfl n_len (pda_cons (pd_of_var (pv 0)) pda_nil)) (pd_len rfl n_len (pda_cons (pd_of_var (pv 1)) pda_nil))) (pd_mul pd_int (pd_len rfl n_len (pda_cons (pd_callC C_kept_pairs hr (by decide) rfl (pda_cons (pd_of_var (pv 0)) (pda_cons (pd_of_var (pv 1)) pda_nil))) pda_nil))))))) does_least_cost
theorem ok__law_started (F : DfA K mg "_law_started" s__law_started ["_law_script"]) (n_int : mg "int" = none)  : Cal P w K mg base 1 "_law_started" φ__law_started := by
  have nd := sc__law_started.nd
  exact calD F sc__law_started len__law_started (fun f cdv A outer s H E hr =>
    (pds_one (pds_ret (pd_disp (ps := [((dC (.str "script")), (dV 0)), ((dC (.str "at")), (dC (.int 0))), ((dC (.str "rest")), (dLc finM (dIn (dV 0)) (.nm 1) dYes (dOp ρMul (dV 1) (dCB ρInt (dCons (dOp ρGe (dV 1) (dOp ρPow (dC (.int 10)) (dC (.int 18)))) dNil))) [1]))]) (pps_cons pd_str (pd_of_var (pv 0)) (pps_cons pd_str pd_int (pps_cons pd_str (pd_lc (own := [("_law_cell", 1)]) fin_M rfl nd (pdi_seq (pd_of_var (pv 0))) (blkOk_by (own := [("_law_cell", 1)]) (by kernel_rfl)) (by decide) (fun _ _ _ _ _ => (pdg_nm (i := 1) nd rfl (by first | exact Or.inl rfl | exact Or.inr rfl))) (fun _ _ _ _ _ => pdts_nil) (fun _ _ _ _ _ => (pd_mul (pd_of_var (pv 1)) (pd_intc rfl n_int (pda_cons (pd_ge (pd_of_var (pv 1)) (pd_pow pd_int pd_int)) pda_nil))))) pps_nil))) rfl rfl (fun z => by cases z) (by decide))))) does__law_started
theorem ok__law_draw (F : DfA K mg "_law_draw" s__law_draw ["_law_m", "_law_many"]) (n_len : mg "len" = none)  : Cal P w K mg base 1 "_law_draw" φ__law_draw := by
  have nd := sc__law_draw.nd
  exact calD F sc__law_draw len__law_draw (fun f cdv A outer s H E hr =>
    (pds_cons (pds_set (i := 2) nd rfl (by first | exact Or.inl rfl | exact Or.inr rfl) (pd_dk (hu_of hr) (pd_of_var (pv 0)) pd_str (fun _ _ => rfl)))
    (pds_cons (pds_sub (hu_of hr) (pd_of_var (pv 0)) pd_str (pd_add (pd_of_var (pv 2)) pd_int) (hx := pg_sub (pd_of_var (pv 0)) pd_str (set_or set_list (set_dict (hu_of hr)))))
    (pds_cons (pds_set (i := 3) nd rfl (by first | exact Or.inl rfl | exact Or.inr rfl) (pd_dk (hu_of hr) (pd_of_var (pv 0)) pd_str (fun _ _ => rfl)))
    (pds_cons (pds_set (i := 4) nd rfl (by first | exact Or.inl rfl | exact Or.inr rfl) (pd_ifE (pdt_ne hr.units (pd_dk (hu_of hr) (pd_of_var (pv 0)) pd_str (fun _ _ => rfl)) (pd_lst pda_nil)) (pd_item (pd_dk (hu_of hr) (pd_of_var (pv 0)) pd_str (fun _ _ => rfl)) (pd_mod (pd_of_var (pv 2)) (pd_len rfl n_len (pda_cons (pd_of_var (pv 3)) pda_nil))) (fun _ _ => rfl)) pd_int))
    (pds_cons (pds_if (pdt_gt (pd_of_var (pv 4)) pd_int) (pds_cons (pds_sub (hu_of hr) (pd_dk (hu_of hr) (pd_of_var (pv 0)) pd_str (fun _ _ => rfl)) (pd_mod (pd_of_var (pv 2)) (pd_len rfl n_len (pda_cons (pd_of_var (pv 3)) pda_nil))) (pd_fdiv (pd_of_var (pv 4)) (pd_of_var (pv 1))) (hx := pg_sub (pd_dk (hu_of hr) (pd_of_var (pv 0)) pd_str (fun _ _ => rfl)) (pd_mod (pd_of_var (pv 2)) (pd_len rfl n_len (pda_cons (pd_of_var (pv 3)) pda_nil))) (set_or set_list (set_dict (hu_of hr)))))
    (pds_one (pds_ret (pd_mod (pd_of_var (pv 4)) (pd_of_var (pv 1))))))
    pds_nil)
    (pds_cons (pds_set (i := 5) nd rfl (by first | exact Or.inl rfl | exact Or.inr rfl) (pd_ifE (pdt_ne hr.units (pd_of_var (pv 3)) (pd_lst pda_nil)) (pd_item (pd_of_var (pv 3)) (pd_mod (pd_of_var (pv 2)) (pd_len rfl n_len (pda_cons (pd_of_var (pv 3)) pda_nil))) (fun _ _ => rfl)) pd_int))
    (pds_cons (pds_set (i := 6) nd rfl (by first | exact Or.inl rfl | exact Or.inr rfl) (pd_mod (pd_add (pd_add (pd_mul (pd_mod (pd_of_var (pv 5)) pd_int) pd_int) (pd_mul (pd_mul pd_int (pd_of_var (pv 2))) (pd_of_var (pv 2)))) pd_int) pd_int))
    (pds_cons (pds_set (i := 6) nd rfl (by first | exact Or.inl rfl | exact Or.inr rfl) (pd_mod (pd_mul (pd_of_var (pv 6)) (pd_add pd_int (pd_mul pd_int (pd_of_var (pv 2))))) pd_int))
    (pds_one (pds_ret (pd_mod (pd_fdiv (pd_mod (pd_mul (pd_of_var (pv 6)) (pd_of_var (pv 6))) pd_int) pd_int) (pd_of_var (pv 1)))))))))))))) does__law_draw
theorem ok__law_of (F : DfA K mg "_law_of" s__law_of ["_law_m", "_law_some"]) (n_len : mg "len" = none) (C__law_draw : Cal P w K mg base 1 "_law_draw" φ__law_draw) : Cal P w K mg base 2 "_law_of" φ__law_of := by
  have nd := sc__law_of.nd
  exact calD F sc__law_of len__law_of (fun f cdv A outer s H E hr =>
    (pds_one (pds_ret (pd_item (pd_of_var (pv 1)) (pd_callC C__law_draw hr (by decide) rfl (pda_cons (pd_of_var (pv 0)) (pda_cons (pd_len rfl n_len (pda_cons (pd_of_var (pv 1)) pda_nil)) pda_nil))) (fun _ _ => rfl))))) does__law_of
theorem ok__law_alike {k : Nat} {φ__law_alike φ : DF} (F : DfA K mg "_law_alike" s__law_alike ["_law_found", "_law_due"]) (n_isinstance : mg "isinstance" = none) (n_tuple : mg "tuple" = none) (n_list : mg "list" = none) (n_len : mg "len" = none) (n_all : mg "all" = none) (n_zip : mg "zip" = none) (n_bool : mg "bool" = none)  (C__law_alike : Cal P w K mg base k "_law_alike" φ__law_alike) (len : ∀ M ss post, φ M ss post → ss.length = 2) (does : Does 4 φ (c__law_alike φ__law_alike)) : Cal P w K mg base (k + 1) "_law_alike" φ := by
  have nd := sc__law_alike.nd
  exact calD F sc__law_alike len (fun f cdv A outer s H E hr =>
    (pds_cons (pds_if (pdt_truth (pd_isi2 (U := "tuple") (W := "list") rfl rfl rfl n_isinstance rfl n_tuple (by decide +kernel) rfl n_list (by decide +kernel) (pd_of_var (pv 1))) (by intro _; rfl)) (pds_cons (pds_if (PW.pt (pdw_or (pdt_ne hr.units (pd_isi (U := "list") rfl rfl n_isinstance rfl n_list (by decide +kernel) (pd_of_var (pv 0))) (pd_isi (U := "list") rfl rfl n_isinstance rfl n_list (by decide +kernel) (pd_of_var (pv 1)))) (pdw_or1 (pdt_not (pdt_truth (pd_isi2 (U := "tuple") (W := "list") rfl rfl rfl n_isinstance rfl n_tuple (by decide +kernel) rfl n_list (by decide +kernel) (pd_of_var (pv 0))) (by intro _; rfl)))))) (pds_one (pds_ret pd_bl))
    pds_nil)
    (pds_one (pds_ret (pd_and (pd_eq hr.units (pd_len rfl n_len (pda_cons (pd_of_var (pv 0)) pda_nil)) (pd_len rfl n_len (pda_cons (pd_of_var (pv 1)) pda_nil))) (pd_one (pd_all rfl rfl n_all (pda_cons (pd_lc (own := [("_law_one", 2), ("_law_other", 3)]) fin_D rfl nd (pdi_zipS rfl n_zip (pda_cons (pd_of_var (pv 0)) (pda_cons (pd_of_var (pv 1)) pda_nil))) (blkOk_by (own := [("_law_one", 2), ("_law_other", 3)]) (by kernel_rfl)) (by decide) (fun _ _ _ _ _ => (pdg_tp (js := [2, 3]) rfl (pdgs_cons (i := 2) (js := [3]) nd rfl (by first | exact Or.inl rfl | exact Or.inr rfl) (pdgs_cons (i := 3) (js := []) nd rfl (by first | exact Or.inl rfl | exact Or.inr rfl) pgs_nil)))) (fun _ _ _ _ _ => pdts_nil) (fun _ _ _ _ _ => (pd_callC C__law_alike hr (Nat.le_refl _) rfl (pda_cons (pd_of_var (pv 2)) (pda_cons (pd_of_var (pv 3)) pda_nil))))) pda_nil)))))))
    pds_nil)
    (pds_one (pds_ret (pd_and (pd_eq hr.units (pd_isi (U := "bool") rfl rfl n_isinstance rfl n_bool (by decide +kernel) (pd_of_var (pv 0))) (pd_isi (U := "bool") rfl rfl n_isinstance rfl n_bool (by decide +kernel) (pd_of_var (pv 1)))) (pd_one (pd_eq hr.units (pd_of_var (pv 0)) (pd_of_var (pv 1))))))))) does
theorem ok__law_rows (F : DfA K mg "_law_rows" s__law_rows ["_law_m"]) (n_range : mg "range" = none) (n_list : mg "list" = none) (n_len : mg "len" = none) (n_int : mg "int" = none) (C__law_draw : Cal P w K mg base 1 "_law_draw" φ__law_draw) (C__law_of : Cal P w K mg base 2 "_law_of" φ__law_of) : Cal P w K mg base 3 "_law_rows" φ__law_rows := by
  have nd := sc__law_rows.nd
  exact calD F sc__law_rows len__law_rows (fun f cdv A outer s H E hr =>
    (pds_cons (pds_set (i := 1) nd rfl (by first | exact Or.inl rfl | exact Or.inr rfl) (pd_item (pd_lst (pda_cons (pd_lst (pda_cons pd_str pda_nil)) (pda_cons (pd_lst (pda_cons pd_str (pda_cons pd_str pda_nil))) (pda_cons (pd_lst (pda_cons pd_str (pda_cons pd_str (pda_cons pd_str pda_nil)))) (pda_cons (pd_lst (pda_cons pd_str (pda_cons pd_str (pda_cons pd_str (pda_cons pd_str (pda_cons pd_str pda_nil)))))) pda_nil))))) (pd_callC C__law_draw hr (by decide) rfl (pda_cons (pd_of_var (pv 0)) (pda_cons pd_int pda_nil))) (fun _ _ => rfl)))
    (pds_cons (pds_setLc (i := 2) (own := [("_law_k", 3)]) fin_D rfl nd rfl rfl (sw_true rfl rfl rfl (by decide +kernel)) (pdi_range1 rfl n_range (pda_cons (pd_callC C__law_draw hr (by decide) rfl (pda_cons (pd_of_var (pv 0)) (pda_cons pd_int pda_nil))) pda_nil)) (blkOk_by (own := [("_law_k", 3)]) (by kernel_rfl)) (by decide) (fun _ _ _ _ _ => (pdg_nm (i := 3) nd rfl (by first | exact Or.inl rfl | exact Or.inr rfl))) (fun _ _ _ _ _ => pdts_nil) (fun _ _ _ _ _ => (pd_callC C__law_of hr (by decide) rfl (pda_cons (pd_of_var (pv 0)) (pda_cons (pd_of_var (pv 1)) pda_nil)))))
    (pds_cons (pds_if (pdt_eq hr.units (pd_callC C__law_draw hr (by decide) rfl (pda_cons (pd_of_var (pv 0)) (pda_cons pd_int pda_nil))) pd_int) (pds_one (pds_ret (pd_tup (pda_cons (pd_of_var (pv 2)) (pda_cons (pd_lc (own := [("_law_k", 3)]) fin_D rfl nd (pdi_range1 rfl n_range (pda_cons (pd_callC C__law_draw hr (by decide) rfl (pda_cons (pd_of_var (pv 0)) (pda_cons pd_int pda_nil))) pda_nil)) (blkOk_by (own := [("_law_k", 3)]) (by kernel_rfl)) (by decide) (fun _ _ _ _ _ => (pdg_nm (i := 3) nd rfl (by first | exact Or.inl rfl | exact Or.inr rfl))) (fun _ _ _ _ _ => pdts_nil) (fun _ _ _ _ _ => (pd_callC C__law_of hr (by decide) rfl (pda_cons (pd_of_var (pv 0)) (pda_cons (pd_of_var (pv 1)) pda_nil))))) pda_nil)))))
    pds_nil)
    (pds_cons (pds_set (i := 4) nd rfl (by first | exact Or.inl rfl | exact Or.inr rfl) (pd_list (fin := false) rfl n_list (pda_cons (pd_of_var (pv 2)) pda_nil)))
    (pds_cons (pds_for PassesOwn.never rfl (pdi_range1 rfl n_range (pda_cons (pd_add pd_int (pd_callC C__law_draw hr (by decide) rfl (pda_cons (pd_of_var (pv 0)) (pda_cons pd_int pda_nil)))) pda_nil)) (pdg_nm (i := 3) nd rfl (by first | exact Or.inl rfl | exact Or.inr rfl))
    (pds_cons (pds_set (i := 5) nd rfl (by first | exact Or.inl rfl | exact Or.inr rfl) (pd_callC C__law_draw hr (by decide) rfl (pda_cons (pd_of_var (pv 0)) (pda_cons (pd_add (pd_len rfl n_len (pda_cons (pd_of_var (pv 4)) pda_nil)) pd_int) pda_nil))))
    (pds_cons (pds_set (i := 6) nd rfl (by first | exact Or.inl rfl | exact Or.inr rfl) (pd_callC C__law_draw hr (by decide) rfl (pda_cons (pd_of_var (pv 0)) (pda_cons pd_int pda_nil))))
    (pds_one (pds_set (i := 4) nd rfl (by first | exact Or.inl rfl | exact Or.inr rfl) (pd_add (pd_add (pd_slice (pd_of_var (pv 4)) pdo_none (pdo_some (pd_of_var (pv 5)))) (pd_mul (pd_lst (pda_cons (pd_callC C__law_of hr (by decide) rfl (pda_cons (pd_of_var (pv 0)) (pda_cons (pd_of_var (pv 1)) pda_nil))) pda_nil)) (pd_intc rfl n_int (pda_cons (pd_gt (pd_of_var (pv 6)) pd_int) pda_nil)))) (pd_slice (pd_of_var (pv 4)) (pdo_some (pd_add (pd_of_var (pv 5)) (pd_intc rfl n_int (pda_cons (pd_ne hr.units (pd_of_var (pv 6)) pd_int) pda_nil)))) pdo_none)))))))
    (pds_one (pds_ret (pd_tup (pda_cons (pd_of_var (pv 2)) (pda_cons (pd_slice (pd_of_var (pv 4)) pdo_none (pdo_some pd_int)) pda_nil))))))))))) does__law_rows
theorem ok__law_ends (F : DfA K mg "_law_ends" s__law_ends ["_law_one", "_law_other"]) (n_range : mg "range" = none) (n_len : mg "len" = none) (n_max : mg "max" = none)  : Cal P w K mg base 1 "_law_ends" φ__law_ends := by
  have nd := sc__law_ends.nd
  exact calD F sc__law_ends len__law_ends (fun f cdv A outer s H E hr =>
    (pds_cons (pds_set (i := 2) nd rfl (by first | exact Or.inl rfl | exact Or.inr rfl) pd_newT)
    (pds_cons (pds_for PassesOwn.never rfl (pdi_range1 rfl n_range (pda_cons (pd_len rfl n_len (pda_cons (pd_of_var (pv 0)) pda_nil)) pda_nil)) (pdg_nm (i := 3) nd rfl (by first | exact Or.inl rfl | exact Or.inr rfl))
    (pds_one (pds_for PassesOwn.never rfl (pdi_range1 rfl n_range (pda_cons (pd_len rfl n_len (pda_cons (pd_of_var (pv 1)) pda_nil)) pda_nil)) (pdg_nm (i := 4) nd rfl (by first | exact Or.inl rfl | exact Or.inr rfl))
    (pds_one (pds_if (pdt_eq hr.units (pd_item (pd_of_var (pv 0)) (pd_of_var (pv 3)) (fun _ _ => rfl)) (pd_item (pd_of_var (pv 1)) (pd_of_var (pv 4)) (fun _ _ => rfl))) (pds_cons (pds_lock (pds_setLc (i := 5) (own := [("_law_pair", 6)]) fin_D rfl nd rfl rfl (sw_true rfl rfl rfl (by decide +kernel)) (pdi_keys (pd_of_var (pv 2))) (blkOk_by (own := [("_law_pair", 6)]) (by kernel_rfl)) (by decide) (fun _ _ _ _ _ => (pdg_nm (i := 6) nd rfl (by first | exact Or.inl rfl | exact Or.inr rfl))) (fun _ _ _ _ _ => (pdts_one (PW.pt (pdw_and (pdt_lt (pd_item (pd_of_var (pv 6)) pd_int (fun _ _ => rfl)) (pd_of_var (pv 3))) (pdw_and1 (pdt_lt (pd_item (pd_of_var (pv 6)) pd_int (fun _ _ => rfl)) (pd_of_var (pv 4)))))))) (fun _ _ _ _ _ => (pd_dk (hu_of hr) (pd_of_var (pv 2)) (pd_of_var (pv 6)) (fun _ _ => rfl)))))
    (pds_one (pds_sub (hu_of hr) (pd_of_var (pv 2)) (pd_tup (pda_cons (pd_of_var (pv 3)) (pda_cons (pd_of_var (pv 4)) pda_nil))) (pd_add pd_int (pd_max rfl rfl n_max (pda_cons (pd_add (pd_lst (pda_cons pd_int pda_nil)) (pd_of_var (pv 5))) pda_nil))) (hx := pg_sub (pd_of_var (pv 2)) (pd_tup (pda_cons (pd_of_var (pv 3)) (pda_cons (pd_of_var (pv 4)) pda_nil))) (set_or set_list (set_dict (hu_of hr)))))))
    pds_nil)))))
    (pds_one (pds_ret (pd_of_var (pv 2))))))) does__law_ends
theorem ok__law_right (F : DfA K mg "_law_right" s__law_right ["_law_one", "_law_other"]) (n_max : mg "max" = none) (n_list : mg "list" = none) (n_range : mg "range" = none) (n_sorted : mg "sorted" = none) (n_isinstance : mg "isinstance" = none) (n_tuple : mg "tuple" = none) (n_len : mg "len" = none) (n_enumerate : mg "enumerate" = none) (C__law_ends : Cal P w K mg base 1 "_law_ends" φ__law_ends) (C_least_change : Cal P w K mg base 4 "least_change" φ_least_change) (C__law_alike : Cal P w K mg base 4 "_law_alike" φ__law_alike) (C_least_cost : Cal P w K mg base 4 "least_cost" φ_least_cost) : Cal P w K mg base 5 "_law_right" φ__law_right := by
  have nd := sc__law_right.nd
  exact calD F sc__law_right len__law_right (fun f cdv A outer s H E hr =>
    (pds_cons (pds_set (i := 2) nd rfl (by first | exact Or.inl rfl | exact Or.inr rfl) (pd_callC C__law_ends hr (by decide) rfl (pda_cons (pd_of_var (pv 0)) (pda_cons (pd_of_var (pv 1)) pda_nil))))
    (pds_cons (pds_set (i := 3) nd rfl (by first | exact Or.inl rfl | exact Or.inr rfl) (pd_max rfl rfl n_max (pda_cons (pd_add (pd_lst (pda_cons pd_int pda_nil)) (pd_listVals rfl (pd_of_var (pv 2)) rfl n_list)) pda_nil)))
    (pds_cons (pds_setLc (i := 4) (own := [("_law_k", 6)]) fin_D rfl nd rfl rfl (sw_true rfl rfl rfl (by decide +kernel)) (pdi_range1 rfl n_range (pda_cons (pd_of_var (pv 3)) pda_nil)) (blkOk_by (own := [("_law_k", 6)]) (by kernel_rfl)) (by decide) (fun _ _ _ _ _ => (pdg_nm (i := 6) nd rfl (by first | exact Or.inl rfl | exact Or.inr rfl))) (fun _ _ _ _ _ => pdts_nil) (fun _ _ _ _ _ => (pd_sort rfl hr.units rfl n_sorted (pda_cons (pd_lock (pd_lc (own := [("_law_pair", 5)]) fin_D rfl nd (pdi_keys (pd_of_var (pv 2))) (blkOk_by (own := [("_law_pair", 5)]) (by kernel_rfl)) (by decide) (fun _ _ _ _ _ => (pdg_nm (i := 5) nd rfl (by first | exact Or.inl rfl | exact Or.inr rfl))) (fun _ _ _ _ _ => (pdts_one (pdt_eq hr.units (pd_dk (hu_of hr) (pd_of_var (pv 2)) (pd_of_var (pv 5)) (fun _ _ => rfl)) (pd_add (pd_of_var (pv 6)) pd_int)))) (fun _ _ _ _ _ => (pd_of_var (pv 5))))) pda_nil))))
    (pds_cons (pds_for PassesOwn.never rfl (pdi_range1 rfl n_range (pda_cons pd_int pda_nil)) (pdg_nm (i := 7) nd rfl (by first | exact Or.inl rfl | exact Or.inr rfl))
    (pds_cons (pds_set (i := 8) nd rfl (by first | exact Or.inl rfl | exact Or.inr rfl) (pd_lst (pda_cons (pd_list (fin := false) rfl n_list (pda_cons (pd_of_var (pv 0)) pda_nil)) (pda_cons (pd_list (fin := false) rfl n_list (pda_cons (pd_of_var (pv 1)) pda_nil)) pda_nil))))
    (pds_cons (pds_set (i := 9) nd rfl (by first | exact Or.inl rfl | exact Or.inr rfl) (pd_callC C_least_change hr (by decide) rfl (pda_cons (pd_item (pd_of_var (pv 8)) pd_int (fun _ _ => rfl)) (pda_cons (pd_item (pd_of_var (pv 8)) pd_int (fun _ _ => rfl)) pda_nil))))
    (pds_cons (pds_if (pdt_ne hr.units (pd_of_var (pv 8)) (pd_lst (pda_cons (pd_of_var (pv 0)) (pda_cons (pd_of_var (pv 1)) pda_nil)))) (pds_one (pds_ret pd_bl))
    pds_nil)
    (pds_cons (pds_if (PW.pt (pdw_or (pdt_not (pdt_truth (pd_isi (U := "tuple") rfl rfl n_isinstance rfl n_tuple (by decide +kernel) (pd_of_var (pv 9))) (by intro _; rfl))) (pdw_or (pdt_ne hr.units (pd_len rfl n_len (pda_cons (pd_of_var (pv 9)) pda_nil)) pd_int) (pdw_or1 (pdt_not (pdt_truth (pd_callC C__law_alike hr (by decide) rfl (pda_cons (pd_item (pd_of_var (pv 9)) pd_int (fun _ _ => rfl)) (pda_cons (pd_of_var (pv 4)) pda_nil))) (by intro _; rfl))))))) (pds_one (pds_ret pd_bl))
    pds_nil)
    (pds_cons (pds_set (i := 10) nd rfl (by first | exact Or.inl rfl | exact Or.inr rfl) (pd_item (pd_of_var (pv 9)) pd_int (fun _ _ => rfl)))
    (pds_cons (pds_if (PW.pt (pdw_or (pdt_not (pdt_truth (pd_callC C__law_alike hr (by decide) rfl (pda_cons (pd_of_var (pv 10)) (pda_cons (pd_sort rfl hr.units rfl n_sorted (pda_cons (pd_of_var (pv 10)) pda_nil)) pda_nil))) (by intro _; rfl))) (pdw_or1 (pdt_ne hr.units (pd_len rfl n_len (pda_cons (pd_of_var (pv 10)) pda_nil)) (pd_of_var (pv 3)))))) (pds_one (pds_ret pd_bl))
    pds_nil)
    (pds_cons (pds_for PassesOwn.never rfl (pdi_enum rfl n_enumerate (pda_cons (pd_of_var (pv 10)) pda_nil)) (pdg_tp (js := [6, 5]) rfl (pdgs_cons (i := 6) (js := [5]) nd rfl (by first | exact Or.inl rfl | exact Or.inr rfl) (pdgs_cons (i := 5) (js := []) nd rfl (by first | exact Or.inl rfl | exact Or.inr rfl) pgs_nil)))
    (pds_one (pds_if (PW.pt (pdw_or (pdt_ne hr.units (pd_dget2 (hu_of hr) (pd_of_var (pv 2)) (pd_of_var (pv 5)) pd_int (by constructor <;> rfl)) (pd_add (pd_of_var (pv 6)) pd_int)) (pdw_or1 (PW.pt (pdw_and (pdt_gt (pd_of_var (pv 6)) pd_int) (pdw_and1 (PW.pt (pdw_or (pdt_le (pd_item (pd_of_var (pv 5)) pd_int (fun _ _ => rfl)) (pd_item (pd_item (pd_of_var (pv 10)) (pd_sub (pd_of_var (pv 6)) pd_int) (fun _ _ => rfl)) pd_int (fun _ _ => rfl))) (pdw_or1 (pdt_le (pd_item (pd_of_var (pv 5)) pd_int (fun _ _ => rfl)) (pd_item (pd_item (pd_of_var (pv 10)) (pd_sub (pd_of_var (pv 6)) pd_int) (fun _ _ => rfl)) pd_int (fun _ _ => rfl)))))))))))) (pds_one (pds_ret pd_bl))
    pds_nil)))
    (pds_cons (pds_expr (pd_append (pd_item (pd_of_var (pv 9)) pd_int (fun _ _ => rfl)) (pda_cons (pd_tup (pda_cons pd_int (pda_cons pd_int pda_nil))) pda_nil)))
    (pds_cons (pds_for PassesOwn.never rfl (pdi_seq (pd_item (pd_of_var (pv 9)) pd_int (fun _ _ => rfl))) (pdg_nm (i := 11) nd rfl (by first | exact Or.inl rfl | exact Or.inr rfl))
    (pds_one (pds_expr (pd_append (pd_of_var (pv 11)) (pda_cons (pd_tup (pda_cons pd_int (pda_cons pd_int pda_nil))) pda_nil)))))
    (pds_one (pds_expr (pd_append (pd_item (pd_of_var (pv 9)) pd_int (fun _ _ => rfl)) (pda_cons (pd_lst pda_nil) pda_nil))))))))))))))
    (pds_cons (pds_set (i := 8) nd rfl (by first | exact Or.inl rfl | exact Or.inr rfl) (pd_lst (pda_cons (pd_list (fin := false) rfl n_list (pda_cons (pd_of_var (pv 0)) pda_nil)) (pda_cons (pd_list (fin := false) rfl n_list (pda_cons (pd_of_var (pv 1)) pda_nil)) pda_nil))))
    (pds_cons (pds_if (pdt_not (pdt_truth (pd_callC C__law_alike hr (by decide) rfl (pda_cons (pd_callC C_least_cost hr (by decide) rfl (pda_cons (pd_item (pd_of_var (pv 8)) pd_int (fun _ _ => rfl)) (pda_cons (pd_item (pd_of_var (pv 8)) pd_int (fun _ _ => rfl)) pda_nil))) (pda_cons (pd_sub (pd_add (pd_len rfl n_len (pda_cons (pd_of_var (pv 0)) pda_nil)) (pd_len rfl n_len (pda_cons (pd_of_var (pv 1)) pda_nil))) (pd_mul pd_int (pd_of_var (pv 3)))) pda_nil))) (by intro _; rfl))) (pds_one (pds_ret pd_bl))
    pds_nil)
    (pds_one (pds_ret (pd_eq hr.units (pd_of_var (pv 8)) (pd_lst (pda_cons (pd_of_var (pv 0)) (pda_cons (pd_of_var (pv 1)) pda_nil))))))))))))) does__law_right
theorem ok_law {f : Addr} {fd : FuncData} (F : Fun K "law" "law" s_law f fd) (n_range : mg "range" = none) (n_max : mg "max" = none) (n_min : mg "min" = none) (n_len : mg "len" = none) (C__law_started : Cal P w K mg base 1 "_law_started" φ__law_started) (C__law_rows : Cal P w K mg base 3 "_law_rows" φ__law_rows) (C__law_right : Cal P w K mg base 5 "_law_right" φ__law_right) : FnOk P w K mg base CX0 6 f fd ["_law_script"] (spD K φ_law) := by
  have nd := sc_law.nd
  exact okD F sc_law len_law (fun cdv A outer s H E hr =>
    (pds_cons (pds_set (i := 1) nd rfl (by first | exact Or.inl rfl | exact Or.inr rfl) (pd_callC C__law_started hr (by decide) rfl (pda_cons (pd_of_var (pv 0)) pda_nil)))
    (pds_cons (pds_for PassesOwn.never rfl (pdi_range1 rfl n_range (pda_cons (pd_max rfl rfl n_max (pda_cons pd_int (pda_cons (pd_min rfl rfl n_min (pda_cons pd_int (pda_cons (pd_len rfl n_len (pda_cons (pd_of_var (pv 0)) pda_nil)) pda_nil))) pda_nil))) pda_nil)) (pdg_nm (i := 2) nd rfl (by first | exact Or.inl rfl | exact Or.inr rfl))
    (pds_cons (pds_asg (pd_callC C__law_rows hr (by decide) rfl (pda_cons (pd_of_var (pv 1)) pda_nil)) (pdg_tp (js := [3, 4]) rfl (pdgs_cons (i := 3) (js := [4]) nd rfl (by first | exact Or.inl rfl | exact Or.inr rfl) (pdgs_cons (i := 4) (js := []) nd rfl (by first | exact Or.inl rfl | exact Or.inr rfl) pgs_nil))))
    (pds_one (pds_if (PW.pt (pdw_or (pdt_not (pdt_truth (pd_callC C__law_right hr (by decide) rfl (pda_cons (pd_of_var (pv 3)) (pda_cons (pd_of_var (pv 4)) pda_nil))) (by intro _; rfl))) (pdw_or1 (pdt_not (pdt_truth (pd_callC C__law_right hr (by decide) rfl (pda_cons (pd_of_var (pv 4)) (pda_cons (pd_of_var (pv 3)) pda_nil))) (by intro _; rfl)))))) (pds_one (pds_ret pd_bl))
    pds_nil))))
    (pds_one (pds_ret (pd_and (pd_callC C__law_right hr (by decide) rfl (pda_cons (pd_lst pda_nil) (pda_cons (pd_lst pda_nil) pda_nil))) (pd_one (pd_callC C__law_right hr (by decide) rfl (pda_cons (pd_mul (pd_lst (pda_cons pd_str pda_nil)) pd_int) (pda_cons (pd_mul (pd_lst (pda_cons pd_str pda_nil)) pd_int) pda_nil)))))))))) does_law
end
end Lst
set_option Elab.async false
set_option linter.all false
set_option maxRecDepth 100000
set_option maxHeartbeats 4000000
namespace Lst
open PySem PySem.Spec PyProof.Rows L2 DL
theorem all_mk {l : PySem.W.OpenLaw} {w : World} {K : PySem.W.Frag} {h : Heap} {mg : Str → Option Value} {fa f0 f1 f2 f3 f4 f5 f6 f7 f8 f9 f10 f11 f12 f13 : Addr} (X : K.In h) (G : h.Ns mainGlobals mg) (hfa : mg "law" = some (.ref fa))
    {od0 an0 od1 an1 od2 an2 od3 an3 od4 an4 od5 an5 od6 an6 od7 an7 od8 an8 od9 an9 od10 an10 od11 an11 od12 an12 od13 an13 : Option Addr} {sl0 sl1 sl2 sl3 sl4 sl5 sl6 sl7 sl8 sl9 sl10 sl11 sl12 sl13 : Array (Option Value)} {oc0 kV0 dc0 pm0 cd0 ct0 oc1 kV1 dc1 pm1 cd1 ct1 oc2 kV2 dc2 pm2 cd2 ct2 oc3 kV3 dc3 pm3 cd3 ct3 oc4 kV4 dc4 pm4 cd4 ct4 oc5 kV5 dc5 pm5 cd5 ct5 oc6 kV6 dc6 pm6 cd6 ct6 oc7 kV7 dc7 pm7 cd7 ct7 oc8 kV8 dc8 pm8 cd8 ct8 oc9 kV9 dc9 pm9 cd9 ct9 oc10 kV10 dc10 pm10 cd10 ct10 oc11 kV11 dc11 pm11 cd11 ct11 oc12 kV12 dc12 pm12 cd12 ct12 oc13 kV13 dc13 pm13 cd13 ct13 : Value}
    (a0 : PySem.W.nsIn K mainGlobals "common_ahead" = some (some (.ref f0))) (l0 : K.lookup f0 = some ⟨oc0, od0, .func (PySem.W.fnOf "common_ahead" "common_ahead" (defArgs s_common_ahead) (defBody s_common_ahead) (defScope s_common_ahead) .none kV0 dc0 pm0 an0 cd0 ct0), sl0⟩) (c0 : PySem.W.codeIn K cd0 "common_ahead" = true) (k0 : PySem.W.keepIn K (.ref f0) = true)
    (a1 : PySem.W.nsIn K mainGlobals "common_behind" = some (some (.ref f1))) (l1 : K.lookup f1 = some ⟨oc1, od1, .func (PySem.W.fnOf "common_behind" "common_behind" (defArgs s_common_behind) (defBody s_common_behind) (defScope s_common_behind) .none kV1 dc1 pm1 an1 cd1 ct1), sl1⟩) (c1 : PySem.W.codeIn K cd1 "common_behind" = true) (k1 : PySem.W.keepIn K (.ref f1) = true)
    (a2 : PySem.W.nsIn K mainGlobals "kept_pairs" = some (some (.ref f2))) (l2 : K.lookup f2 = some ⟨oc2, od2, .func (PySem.W.fnOf "kept_pairs" "kept_pairs" (defArgs s_kept_pairs) (defBody s_kept_pairs) (defScope s_kept_pairs) .none kV2 dc2 pm2 an2 cd2 ct2), sl2⟩) (c2 : PySem.W.codeIn K cd2 "kept_pairs" = true) (k2 : PySem.W.keepIn K (.ref f2) = true)
    (a3 : PySem.W.nsIn K mainGlobals "pair_levels" = some (some (.ref f3))) (l3 : K.lookup f3 = some ⟨oc3, od3, .func (PySem.W.fnOf "pair_levels" "pair_levels" (defArgs s_pair_levels) (defBody s_pair_levels) (defScope s_pair_levels) .none kV3 dc3 pm3 an3 cd3 ct3), sl3⟩) (c3 : PySem.W.codeIn K cd3 "pair_levels" = true) (k3 : PySem.W.keepIn K (.ref f3) = true)
    (a4 : PySem.W.nsIn K mainGlobals "least_change" = some (some (.ref f4))) (l4 : K.lookup f4 = some ⟨oc4, od4, .func (PySem.W.fnOf "least_change" "least_change" (defArgs s_least_change) (defBody s_least_change) (defScope s_least_change) .none kV4 dc4 pm4 an4 cd4 ct4), sl4⟩) (c4 : PySem.W.codeIn K cd4 "least_change" = true) (k4 : PySem.W.keepIn K (.ref f4) = true)
    (a5 : PySem.W.nsIn K mainGlobals "least_cost" = some (some (.ref f5))) (l5 : K.lookup f5 = some ⟨oc5, od5, .func (PySem.W.fnOf "least_cost" "least_cost" (defArgs s_least_cost) (defBody s_least_cost) (defScope s_least_cost) .none kV5 dc5 pm5 an5 cd5 ct5), sl5⟩) (c5 : PySem.W.codeIn K cd5 "least_cost" = true) (k5 : PySem.W.keepIn K (.ref f5) = true)
    (a6 : PySem.W.nsIn K mainGlobals "_law_started" = some (some (.ref f6))) (l6 : K.lookup f6 = some ⟨oc6, od6, .func (PySem.W.fnOf "_law_started" "_law_started" (defArgs s__law_started) (defBody s__law_started) (defScope s__law_started) .none kV6 dc6 pm6 an6 cd6 ct6), sl6⟩) (c6 : PySem.W.codeIn K cd6 "_law_started" = true) (k6 : PySem.W.keepIn K (.ref f6) = true)
    (a7 : PySem.W.nsIn K mainGlobals "_law_draw" = some (some (.ref f7))) (l7 : K.lookup f7 = some ⟨oc7, od7, .func (PySem.W.fnOf "_law_draw" "_law_draw" (defArgs s__law_draw) (defBody s__law_draw) (defScope s__law_draw) .none kV7 dc7 pm7 an7 cd7 ct7), sl7⟩) (c7 : PySem.W.codeIn K cd7 "_law_draw" = true) (k7 : PySem.W.keepIn K (.ref f7) = true)
    (a8 : PySem.W.nsIn K mainGlobals "_law_of" = some (some (.ref f8))) (l8 : K.lookup f8 = some ⟨oc8, od8, .func (PySem.W.fnOf "_law_of" "_law_of" (defArgs s__law_of) (defBody s__law_of) (defScope s__law_of) .none kV8 dc8 pm8 an8 cd8 ct8), sl8⟩) (c8 : PySem.W.codeIn K cd8 "_law_of" = true) (k8 : PySem.W.keepIn K (.ref f8) = true)
    (a9 : PySem.W.nsIn K mainGlobals "_law_alike" = some (some (.ref f9))) (l9 : K.lookup f9 = some ⟨oc9, od9, .func (PySem.W.fnOf "_law_alike" "_law_alike" (defArgs s__law_alike) (defBody s__law_alike) (defScope s__law_alike) .none kV9 dc9 pm9 an9 cd9 ct9), sl9⟩) (c9 : PySem.W.codeIn K cd9 "_law_alike" = true) (k9 : PySem.W.keepIn K (.ref f9) = true)
    (a10 : PySem.W.nsIn K mainGlobals "_law_rows" = some (some (.ref f10))) (l10 : K.lookup f10 = some ⟨oc10, od10, .func (PySem.W.fnOf "_law_rows" "_law_rows" (defArgs s__law_rows) (defBody s__law_rows) (defScope s__law_rows) .none kV10 dc10 pm10 an10 cd10 ct10), sl10⟩) (c10 : PySem.W.codeIn K cd10 "_law_rows" = true) (k10 : PySem.W.keepIn K (.ref f10) = true)
    (a11 : PySem.W.nsIn K mainGlobals "_law_ends" = some (some (.ref f11))) (l11 : K.lookup f11 = some ⟨oc11, od11, .func (PySem.W.fnOf "_law_ends" "_law_ends" (defArgs s__law_ends) (defBody s__law_ends) (defScope s__law_ends) .none kV11 dc11 pm11 an11 cd11 ct11), sl11⟩) (c11 : PySem.W.codeIn K cd11 "_law_ends" = true) (k11 : PySem.W.keepIn K (.ref f11) = true)
    (a12 : PySem.W.nsIn K mainGlobals "_law_right" = some (some (.ref f12))) (l12 : K.lookup f12 = some ⟨oc12, od12, .func (PySem.W.fnOf "_law_right" "_law_right" (defArgs s__law_right) (defBody s__law_right) (defScope s__law_right) .none kV12 dc12 pm12 an12 cd12 ct12), sl12⟩) (c12 : PySem.W.codeIn K cd12 "_law_right" = true) (k12 : PySem.W.keepIn K (.ref f12) = true)
    (a13 : PySem.W.nsIn K mainGlobals "law" = some (some (.ref f13))) (l13 : K.lookup f13 = some ⟨oc13, od13, .func (PySem.W.fnOf "law" "law" (defArgs s_law) (defBody s_law) (defScope s_law) .none kV13 dc13 pm13 an13 cd13 ct13), sl13⟩) (c13 : PySem.W.codeIn K cd13 "law" = true) (k13 : PySem.W.keepIn K (.ref f13) = true)
    (z_len : PySem.W.nsIn K mainGlobals "len" = some none) (z_enumerate : PySem.W.nsIn K mainGlobals "enumerate" = some none) (z_max : PySem.W.nsIn K mainGlobals "max" = some none) (z_range : PySem.W.nsIn K mainGlobals "range" = some none) (z_int : PySem.W.nsIn K mainGlobals "int" = some none) (z_isinstance : PySem.W.nsIn K mainGlobals "isinstance" = some none) (z_tuple : PySem.W.nsIn K mainGlobals "tuple" = some none) (z_list : PySem.W.nsIn K mainGlobals "list" = some none) (z_all : PySem.W.nsIn K mainGlobals "all" = some none) (z_zip : PySem.W.nsIn K mainGlobals "zip" = some none) (z_bool : PySem.W.nsIn K mainGlobals "bool" = some none) (z_sorted : PySem.W.nsIn K mainGlobals "sorted" = some none) (z_min : PySem.W.nsIn K mainGlobals "min" = some none) :
    ∃ fd : FuncData, (∀ (s : Shared) (v : Value), BindsTo s fd ⟨[v], []⟩ [("_law_script", v)]) ∧ ∀ base : Heap, K.In base → base.Ns mainGlobals mg → FnOk l.prog w K mg base CX0 6 fa fd ["_law_script"] (spD K φ_law) := by
  have e := hfa.symm.trans (PySem.W.mg_of X G a13)
  cases e
  have n_len := PySem.W.mg_none_of X G z_len
  have n_enumerate := PySem.W.mg_none_of X G z_enumerate
  have n_max := PySem.W.mg_none_of X G z_max
  have n_range := PySem.W.mg_none_of X G z_range
  have n_int := PySem.W.mg_none_of X G z_int
  have n_isinstance := PySem.W.mg_none_of X G z_isinstance
  have n_tuple := PySem.W.mg_none_of X G z_tuple
  have n_list := PySem.W.mg_none_of X G z_list
  have n_all := PySem.W.mg_none_of X G z_all
  have n_zip := PySem.W.mg_none_of X G z_zip
  have n_bool := PySem.W.mg_none_of X G z_bool
  have n_sorted := PySem.W.mg_none_of X G z_sorted
  have n_min := PySem.W.mg_none_of X G z_min
  have F0 := fun_mk (st := s_common_ahead) l0 c0 k0
  have D_common_ahead : DfA K mg "common_ahead" s_common_ahead ["rows", "others"] := ⟨⟨f0, _, F0, PySem.W.mg_of X G a0, F0.binds (ps := ["rows", "others"]) fun _ _ _ _ _ _ us hl => match us, hl with | [_, _], _ => rfl⟩⟩
  have F1 := fun_mk (st := s_common_behind) l1 c1 k1
  have D_common_behind : DfA K mg "common_behind" s_common_behind ["rows", "others"] := ⟨⟨f1, _, F1, PySem.W.mg_of X G a1, F1.binds (ps := ["rows", "others"]) fun _ _ _ _ _ _ us hl => match us, hl with | [_, _], _ => rfl⟩⟩
  have F2 := fun_mk (st := s_kept_pairs) l2 c2 k2
  have D_kept_pairs : DfA K mg "kept_pairs" s_kept_pairs ["rows", "others"] := ⟨⟨f2, _, F2, PySem.W.mg_of X G a2, F2.binds (ps := ["rows", "others"]) fun _ _ _ _ _ _ us hl => match us, hl with | [_, _], _ => rfl⟩⟩
  have F3 := fun_mk (st := s_pair_levels) l3 c3 k3
  have D_pair_levels : DfA K mg "pair_levels" s_pair_levels ["rows", "others"] := ⟨⟨f3, _, F3, PySem.W.mg_of X G a3, F3.binds (ps := ["rows", "others"]) fun _ _ _ _ _ _ us hl => match us, hl with | [_, _], _ => rfl⟩⟩
  have F4 := fun_mk (st := s_least_change) l4 c4 k4
  have D_least_change : DfA K mg "least_change" s_least_change ["rows", "others"] := ⟨⟨f4, _, F4, PySem.W.mg_of X G a4, F4.binds (ps := ["rows", "others"]) fun _ _ _ _ _ _ us hl => match us, hl with | [_, _], _ => rfl⟩⟩
  have F5 := fun_mk (st := s_least_cost) l5 c5 k5
  have D_least_cost : DfA K mg "least_cost" s_least_cost ["rows", "others"] := ⟨⟨f5, _, F5, PySem.W.mg_of X G a5, F5.binds (ps := ["rows", "others"]) fun _ _ _ _ _ _ us hl => match us, hl with | [_, _], _ => rfl⟩⟩
  have F6 := fun_mk (st := s__law_started) l6 c6 k6
  have D__law_started : DfA K mg "_law_started" s__law_started ["_law_script"] := ⟨⟨f6, _, F6, PySem.W.mg_of X G a6, F6.binds (ps := ["_law_script"]) fun _ _ _ _ _ _ us hl => match us, hl with | [_], _ => rfl⟩⟩
  have F7 := fun_mk (st := s__law_draw) l7 c7 k7
  have D__law_draw : DfA K mg "_law_draw" s__law_draw ["_law_m", "_law_many"] := ⟨⟨f7, _, F7, PySem.W.mg_of X G a7, F7.binds (ps := ["_law_m", "_law_many"]) fun _ _ _ _ _ _ us hl => match us, hl with | [_, _], _ => rfl⟩⟩
  have F8 := fun_mk (st := s__law_of) l8 c8 k8
  have D__law_of : DfA K mg "_law_of" s__law_of ["_law_m", "_law_some"] := ⟨⟨f8, _, F8, PySem.W.mg_of X G a8, F8.binds (ps := ["_law_m", "_law_some"]) fun _ _ _ _ _ _ us hl => match us, hl with | [_, _], _ => rfl⟩⟩
  have F9 := fun_mk (st := s__law_alike) l9 c9 k9
  have D__law_alike : DfA K mg "_law_alike" s__law_alike ["_law_found", "_law_due"] := ⟨⟨f9, _, F9, PySem.W.mg_of X G a9, F9.binds (ps := ["_law_found", "_law_due"]) fun _ _ _ _ _ _ us hl => match us, hl with | [_, _], _ => rfl⟩⟩
  have F10 := fun_mk (st := s__law_rows) l10 c10 k10
  have D__law_rows : DfA K mg "_law_rows" s__law_rows ["_law_m"] := ⟨⟨f10, _, F10, PySem.W.mg_of X G a10, F10.binds (ps := ["_law_m"]) fun _ _ _ _ _ _ us hl => match us, hl with | [_], _ => rfl⟩⟩
  have F11 := fun_mk (st := s__law_ends) l11 c11 k11
  have D__law_ends : DfA K mg "_law_ends" s__law_ends ["_law_one", "_law_other"] := ⟨⟨f11, _, F11, PySem.W.mg_of X G a11, F11.binds (ps := ["_law_one", "_law_other"]) fun _ _ _ _ _ _ us hl => match us, hl with | [_, _], _ => rfl⟩⟩
  have F12 := fun_mk (st := s__law_right) l12 c12 k12
  have D__law_right : DfA K mg "_law_right" s__law_right ["_law_one", "_law_other"] := ⟨⟨f12, _, F12, PySem.W.mg_of X G a12, F12.binds (ps := ["_law_one", "_law_other"]) fun _ _ _ _ _ _ us hl => match us, hl with | [_, _], _ => rfl⟩⟩
  have F13 := fun_mk (st := s_law) l13 c13 k13
  refine ⟨PySem.W.fnOf "law" "law" (defArgs s_law) (defBody s_law) (defScope s_law) .none kV13 dc13 pm13 an13 cd13 ct13, fun s v => .of_eq rfl, fun base _ _ => ?_⟩
  have C_common_ahead : Cal l.prog w K mg base 1 "common_ahead" φ_common_ahead := ok_common_ahead D_common_ahead n_len n_enumerate n_max 
  have C_common_behind : Cal l.prog w K mg base 2 "common_behind" φ_common_behind := ok_common_behind D_common_behind  C_common_ahead
  have C_kept_pairs : Cal l.prog w K mg base 3 "kept_pairs" φ_kept_pairs := ok_kept_pairs D_kept_pairs n_range n_len C_common_behind
  have C_pair_levels : Cal l.prog w K mg base 2 "pair_levels" φ_pair_levels := ok_pair_levels D_pair_levels n_range n_len n_enumerate C_common_ahead
  have C_least_change : Cal l.prog w K mg base 4 "least_change" φ_least_change := ok_least_change D_least_change  C_pair_levels C_kept_pairs
  have C_least_cost : Cal l.prog w K mg base 4 "least_cost" φ_least_cost := ok_least_cost D_least_cost n_len C_kept_pairs
  have C__law_started : Cal l.prog w K mg base 1 "_law_started" φ__law_started := ok__law_started D__law_started n_int 
  have C__law_draw : Cal l.prog w K mg base 1 "_law_draw" φ__law_draw := ok__law_draw D__law_draw n_len 
  have C__law_of : Cal l.prog w K mg base 2 "_law_of" φ__law_of := ok__law_of D__law_of n_len C__law_draw
  have C0__law_alike := calF (P := l.prog) (w := w) (base := base) D__law_alike
  have C1__law_alike : Cal l.prog w K mg base 1 "_law_alike" (alikeN 0) := ok__law_alike D__law_alike n_isinstance n_tuple n_list n_len n_all n_zip n_bool  C0__law_alike (len_alike) (does_alike (n := 0) (fun k e => by cases e))
  have C2__law_alike : Cal l.prog w K mg base 2 "_law_alike" (alikeN 1) := ok__law_alike D__law_alike n_isinstance n_tuple n_list n_len n_all n_zip n_bool  C1__law_alike (len_alike) (does_alike (n := 1) (fun k e => by cases e; rfl))
  have C3__law_alike : Cal l.prog w K mg base 3 "_law_alike" (alikeN 2) := ok__law_alike D__law_alike n_isinstance n_tuple n_list n_len n_all n_zip n_bool  C2__law_alike (len_alike) (does_alike (n := 2) (fun k e => by cases e; rfl))
  have C4__law_alike : Cal l.prog w K mg base 4 "_law_alike" (alikeN 3) := ok__law_alike D__law_alike n_isinstance n_tuple n_list n_len n_all n_zip n_bool  C3__law_alike (len_alike) (does_alike (n := 3) (fun k e => by cases e; rfl))
  have C__law_alike : Cal l.prog w K mg base 4 "_law_alike" φ__law_alike := C4__law_alike
  have C__law_rows : Cal l.prog w K mg base 3 "_law_rows" φ__law_rows := ok__law_rows D__law_rows n_range n_list n_len n_int C__law_draw C__law_of
  have C__law_ends : Cal l.prog w K mg base 1 "_law_ends" φ__law_ends := ok__law_ends D__law_ends n_range n_len n_max 
  have C__law_right : Cal l.prog w K mg base 5 "_law_right" φ__law_right := ok__law_right D__law_right n_max n_list n_range n_sorted n_isinstance n_tuple n_len n_enumerate C__law_ends C_least_change C__law_alike C_least_cost
  exact ok_law F13 n_range n_max n_min n_len C__law_started C__law_rows C__law_right
theorem walk {l : PySem.W.OpenLaw} {q : Program} {loose : List Str} {XP : (Str → Option Value) → Heap → Prop} {YP : World → Heap → Prop} {d : DefRec} {K : Params → PySem.W.Frag} (hn : l.most = some 63) (hdf : d.params.defaults = [])
    (hY : ∀ (w : World) (h : Heap), YP w h → (K w.params).In h)
    (F : ∀ (w : World) (mg : Str → Option Value) (fa : Addr) (h : Heap), (K w.params).In h → h.Ns mainGlobals mg → mg d.name = some (.ref fa) →
      ∃ fd : FuncData, (∀ (s : Shared) (u : Value), BindsTo s fd ⟨[u], []⟩ [("_law_script", u)]) ∧ ∀ base : Heap, (K w.params).In base → base.Ns mainGlobals mg → FnOk l.prog w (K w.params) mg base CX0 6 fa fd ["_law_script"] (spD (K w.params) φ_law)) :
    PySem.W.WalkO q loose XP YP l.row.toRowW d [] (fun f vs => PySem.call f vs) :=
  L2.walk_of (n := 63) (k := 6) (x := "_law_script") (CX := fun _ => CX0) (sp := fun w => spD (K w.params) φ_law) hn (by decide) hdf ⟨rfl, by decide, by decide⟩ hY F (fun w H a ns hl _ hS => sp_start hS ⟨ns, rfl, hl, fun _ => rfl⟩) fun _ _ _ _ _ z => z
end Lst
open PySem PySem.W PyProof.Rows
set_option maxRecDepth 100000 in
set_option maxHeartbeats 0 in
theorem PySem.Challenge.cw_manyheads_k30_least_changes_holds : PySem.Challenge.rw_manyheads_k30_least_changes.Holds := by
  w_on; o_law; k_head; (case hw => w_witness2)
  k_fill
  refine Lst.walk (l := PySem.Challenge.rw_manyheads_k30_least_changes) rfl rfl (fun w h Y => PySem.W.kIn_of Y) ?F
  case F =>
    intro w mg fa h KX G hmg
    refine' Lst.all_mk KX G hmg ?a0 ?l0 ?c0 ?k0 ?a1 ?l1 ?c1 ?k1 ?a2 ?l2 ?c2 ?k2 ?a3 ?l3 ?c3 ?k3 ?a4 ?l4 ?c4 ?k4 ?a5 ?l5 ?c5 ?k5 ?a6 ?l6 ?c6 ?k6 ?a7 ?l7 ?c7 ?k7 ?a8 ?l8 ?c8 ?k8 ?a9 ?l9 ?c9 ?k9 ?a10 ?l10 ?c10 ?k10 ?a11 ?l11 ?c11 ?k11 ?a12 ?l12 ?c12 ?k12 ?a13 ?l13 ?c13 ?k13 ?z_len ?z_enumerate ?z_max ?z_range ?z_int ?z_isinstance ?z_tuple ?z_list ?z_all ?z_zip ?z_bool ?z_sorted ?z_min
    (case a0 => k_is); (case l0 => k_is); (case c0 => k_is); (case k0 => k_is); (case a1 => k_is); (case l1 => k_is)
    (case c1 => k_is); (case k1 => k_is); (case a2 => k_is); (case l2 => k_is); (case c2 => k_is); (case k2 => k_is)
    (case a3 => k_is); (case l3 => k_is); (case c3 => k_is); (case k3 => k_is); (case a4 => k_is); (case l4 => k_is)
    (case c4 => k_is); (case k4 => k_is); (case a5 => k_is); (case l5 => k_is); (case c5 => k_is); (case k5 => k_is)
    (case a6 => k_is); (case l6 => k_is); (case c6 => k_is); (case k6 => k_is); (case a7 => k_is); (case l7 => k_is)
    (case c7 => k_is); (case k7 => k_is); (case a8 => k_is); (case l8 => k_is); (case c8 => k_is); (case k8 => k_is)
    (case a9 => k_is); (case l9 => k_is); (case c9 => k_is); (case k9 => k_is); (case a10 => k_is); (case l10 => k_is)
    (case c10 => k_is); (case k10 => k_is); (case a11 => k_is); (case l11 => k_is); (case c11 => k_is); (case k11 => k_is)
    (case a12 => k_is); (case l12 => k_is); (case c12 => k_is); (case k12 => k_is); (case a13 => k_is); (case l13 => k_is)
    (case c13 => k_is); (case k13 => k_is); (case z_len => k_is); (case z_enumerate => k_is); (case z_max => k_is); (case z_range => k_is)
    (case z_int => k_is); (case z_isinstance => k_is); (case z_tuple => k_is); (case z_list => k_is); (case z_all => k_is); (case z_zip => k_is)
    (case z_bool => k_is); (case z_sorted => k_is); (case z_min => k_is)
#print axioms PySem.Challenge.cw_manyheads_k30_least_changes_holds
